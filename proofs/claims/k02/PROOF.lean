import PyProof.Rows.All
import Wide.All
import OpenK.AllK
import Wide.FinOn
import HandS.ForMost
import HandS.ForExc
import HandS.IsInst
import HandS.Deep
import HandS.Wide
import HandS.Flow
import HandS.TupAny
import HandS.Conv
import HandS.Walk
import HandS.Ends
import HandS.NoneIn
import PySem.Challenge.RW_ledclocks_k02_fractions_reckoned
set_option Elab.async false
set_option linter.all false
set_option maxRecDepth 100000
set_option maxHeartbeats 4000000
/-! DL, part 1: a layer of plain data over HandS. Lists and tuples are values (D); what is changed in place is a cell of a store. -/
namespace DL
open PySem L2

abbrev D := PyData
/-- what a name holds: data, a cell of the store, a thing that is only read (the script) -/
inductive W where
  | d (x : D)
  | c (i : Nat)
  | k (xs : List D)
/-- a cell: a list that may be changed, one that may not be any more, a dict -/
inductive Cell where
  | lst (xs : List D)
  | fz (xs : List D)
  | dk (kvs : List (Key × D))
abbrev Rho := List (Option W)
abbrev Sto := List Cell
inductive Out (α : Type) where
  | ok (a : α) (m : Sto)
  | exc (c : Value) (fs : List (Str × D)) (m : Sto)
  | bad
def Out.bind {α β : Type} : Out α → (α → Sto → Out β) → Out β
  | .ok a m, g => g a m
  | .exc c fs m, _ => .exc c fs m
  | .bad, _ => .bad
def Out.opt {α : Type} (o : Option α) (m : Sto) : Out α := match o with | some a => .ok a m | none => .bad
@[simp] theorem Out.bind_ok {α β : Type} (a : α) (m : Sto) (g : α → Sto → Out β) : (Out.ok a m).bind g = g a m := rfl
@[simp] theorem Out.bind_exc {α β : Type} (c : Value) (fs : List (Str × D)) (m : Sto) (g : α → Sto → Out β) : (Out.exc c fs m).bind g = .exc c fs m := rfl
@[simp] theorem Out.bind_bad {α β : Type} (g : α → Sto → Out β) : (Out.bad).bind g = .bad := rfl
@[simp] theorem Out.opt_some {α : Type} (a : α) (m : Sto) : Out.opt (some a) m = .ok a m := rfl
@[simp] theorem Out.opt_none {α : Type} (m : Sto) : Out.opt (none : Option α) m = .bad := rfl
inductive OutS where
  | nx (r : Rho) (m : Sto)
  | ret (w : W) (m : Sto)
  | brk (r : Rho) (m : Sto)
  | cnt (r : Rho) (m : Sto)
  | exc (c : Value) (fs : List (Str × D)) (r : Rho) (m : Sto)
  | bad

/-! ### what stands for data -/
mutual
inductive Rp (K : PySem.W.Frag) (F : Hp) : V → D → Prop
  | non : Rp K F .non .none
  | bl (b : Bool) : Rp K F (.bl b) (.bool b)
  | int (i : Int) : Rp K F (.int i) (.int i)
  | str (x : Str) : Rp K F (.str x) (.str x)
  | lst {a : Addr} {xs : List V} {ds : List D} : F a = some (.lst xs) → RpA K F xs ds → Rp K F (.ref a) (.list ds)
  | tup {a : Addr} {xs : List V} {ds : List D} : SqT K F a xs → RpA K F xs ds → Rp K F (.ref a) (.tuple ds)
inductive RpA (K : PySem.W.Frag) (F : Hp) : List V → List D → Prop
  | nil : RpA K F [] []
  | cons {v : V} {vs : List V} {d : D} {ds : List D} : Rp K F v d → RpA K F vs ds → RpA K F (v :: vs) (d :: ds)
end
def Ord (F H : Hp) : Prop := ∀ a o, F a = some o → H a = some o
theorem Ord.refl (F : Hp) : Ord F F := fun _ _ h => h
theorem Ord.trans {F G H : Hp} (a : Ord F G) (b : Ord G H) : Ord F H := fun c o h => b c o (a c o h)
section
variable {K : PySem.W.Frag} {F G : Hp}
theorem Ord.rd (h : Ord F G) {a : Addr} {u : HO} (r : Rd F a u) : Rd G a u := by
  rcases r with r | ⟨o, r⟩
  · exact .inl (h _ _ r)
  · exact .inr ⟨o, h _ _ r⟩
theorem Ord.sqT (h : Ord F G) {a : Addr} {xs : List V} (s : SqT K F a xs) : SqT K G a xs := by
  rcases s with s | s
  · exact .inl (h.rd s)
  · exact .inr s
theorem Ord.sqL (h : Ord F G) {a : Addr} {xs : List V} (s : SqL K F a xs) : SqL K G a xs := by
  rcases s with s | s
  · exact .inl (h.rd s)
  · exact .inr s
mutual
theorem Rp.mono (h : Ord F G) : ∀ {v : V} {d : D}, Rp K F v d → Rp K G v d
  | _, _, .non => .non
  | _, _, .bl b => .bl b
  | _, _, .int i => .int i
  | _, _, .str x => .str x
  | _, _, .lst e r => .lst (h _ _ e) (RpA.mono h r)
  | _, _, .tup e r => .tup (h.sqT e) (RpA.mono h r)
theorem RpA.mono (h : Ord F G) : ∀ {v : List V} {d : List D}, RpA K F v d → RpA K G v d
  | _, _, .nil => .nil
  | _, _, .cons a b => .cons (Rp.mono h a) (RpA.mono h b)
end
mutual
theorem Rp.dp : ∀ {v : V} {d : D}, Rp K F v d → Dp K F v d
  | _, _, .non => .non
  | _, _, .bl b => .bl b
  | _, _, .int i => .int i
  | _, _, .str x => .str x
  | _, _, .lst e r => .lst (SqL.of e) (RpA.dp r)
  | _, _, .tup e r => .tup e (RpA.dp r)
theorem RpA.dp : ∀ {v : List V} {d : List D}, RpA K F v d → DpAll K F v d
  | _, _, .nil => .nil
  | _, _, .cons a b => .cons (Rp.dp a) (RpA.dp b)
end
theorem RpA.len : ∀ {vs : List V} {ds : List D}, RpA K F vs ds → vs.length = ds.length
  | _, _, .nil => rfl
  | _, _, .cons _ r => by simp only [List.length_cons]; rw [RpA.len r]
theorem RpA.app : ∀ {vs ws : List V} {ds es : List D}, RpA K F vs ds → RpA K F ws es → RpA K F (vs ++ ws) (ds ++ es)
  | _, _, _, _, .nil, s => s
  | _, _, _, _, .cons a r, s => .cons a (RpA.app r s)
theorem RpA.take : ∀ {vs : List V} {ds : List D} (n : Nat), RpA K F vs ds → RpA K F (vs.take n) (ds.take n)
  | _, _, 0, _ => .nil
  | _, _, _ + 1, .nil => .nil
  | _, _, n + 1, .cons a r => .cons a (RpA.take n r)
theorem RpA.drop : ∀ {vs : List V} {ds : List D} (n : Nat), RpA K F vs ds → RpA K F (vs.drop n) (ds.drop n)
  | _, _, 0, r => r
  | _, _, _ + 1, .nil => .nil
  | _, _, n + 1, .cons _ r => RpA.drop n r
theorem RpA.get : ∀ {vs : List V} {ds : List D} {i : Nat} {d : D}, RpA K F vs ds → ds[i]? = some d → ∃ v, vs[i]? = some v ∧ Rp K F v d
  | _, _, _, _, .nil, e => by simp at e
  | _, _, 0, _, .cons a _, e => by simp at e; subst e; exact ⟨_, rfl, a⟩
  | _, _, i + 1, _, .cons _ r, e => by
    obtain ⟨v, h1, h2⟩ := RpA.get (i := i) r (by simpa using e)
    exact ⟨v, by simpa using h1, h2⟩
theorem RpA.set {v : V} {d : D} (r : Rp K F v d) : ∀ {vs : List V} {ds : List D} (i : Nat), RpA K F vs ds → RpA K F (vs.set i v) (ds.set i d)
  | _, _, _, .nil => .nil
  | _, _, 0, .cons _ t => .cons r t
  | _, _, i + 1, .cons a t => .cons a (RpA.set r i t)
theorem RpA.rev {vs : List V} {ds : List D} (h : RpA K F vs ds) : RpA K F vs.reverse ds.reverse := by
  have go : ∀ {vs : List V} {ds : List D}, RpA K F vs ds → RpA K F vs.reverse ds.reverse := by
    intro vs
    induction vs with
    | nil => intro ds h; cases h; exact .nil
    | cons v vs ih =>
      intro ds h
      cases h with
      | cons a r =>
        rw [List.reverse_cons, List.reverse_cons]
        exact (ih r).app (.cons a .nil)
  exact go h
theorem RpA.dropLast {vs : List V} {ds : List D} (h : RpA K F vs ds) : RpA K F vs.dropLast ds.dropLast := by
  rw [List.dropLast_eq_take, List.dropLast_eq_take, h.len]
  exact h.take _
theorem RpA.eraseIdx : ∀ {vs : List V} {ds : List D} (i : Nat), RpA K F vs ds → RpA K F (vs.eraseIdx i) (ds.eraseIdx i)
  | _, _, _, .nil => .nil
  | _, _, 0, .cons _ t => t
  | _, _, i + 1, .cons a t => .cons a (RpA.eraseIdx i t)
end

/-! ### the store -/
def RpKV (K : PySem.W.Frag) (F : Hp) : List (Key × V) → List (Key × D) → Prop := Paired fun (p : Key × V) (q : Key × D) => p.1 = q.1 ∧ Rp K F p.2 q.2
def CellAt (K : PySem.W.Frag) (F H : Hp) (a : Addr) : Cell → Prop
  | .lst ds => F a = none ∧ ∃ vs, H a = some (.lst vs) ∧ RpA K F vs ds
  | .fz ds => ∃ vs, F a = some (.lst vs) ∧ RpA K F vs ds
  | .dk kvs => F a = none ∧ ∃ ws, H a = some (.dK ws) ∧ RpKV K F ws kvs
structure At (K : PySem.W.Frag) (ad : List Addr) (m : Sto) (F H : Hp) : Prop where
  le : Ord F H
  len : ad.length = m.length
  nd : ad.Nodup
  cel : ∀ (i : Nat) a c, ad[i]? = some a → m[i]? = some c → CellAt K F H a c
def RW (K : PySem.W.Frag) (ad : List Addr) (F : Hp) : W → V → Prop
  | .d x, v => Rp K F v x
  | .c i, v => ∃ a, ad[i]? = some a ∧ v = .ref a
  | .k xs, v => ∃ a vs, v = .ref a ∧ SqL K F a vs ∧ RpA K F vs xs
def RWs (K : PySem.W.Frag) (ad : List Addr) (F : Hp) : List W → List V → Prop := Paired (RW K ad F)
structure EnvOk (K : PySem.W.Frag) (ad : List Addr) (F : Hp) (r : Rho) (s : St) : Prop where
  len : r.length = s.length
  get : ∀ (i : Nat) w, r[i]? = some (some w) → ∃ v, s[i]? = some (some v) ∧ RW K ad F w v
structure Ext (ad : List Addr) (F H : Hp) (ad' : List Addr) (F' H' : Hp) : Prop where
  pre : ∃ t, ad' = ad ++ t
  fle : Ord F F'
  fr : ∀ a o, H a = some o → a ∉ ad → H' a = some o
  nw : ∀ a, a ∈ ad' → a ∉ ad → H a = none
  gn : ∀ a o, F a = none → H a = some o → a ∉ ad → F' a = none
section
variable {K : PySem.W.Frag} {ad ad1 ad2 : List Addr} {F F1 F2 H H1 H2 : Hp}
theorem Ext.refl : Ext ad F H ad F H := ⟨⟨[], by simp⟩, Ord.refl _, fun _ _ h _ => h, fun _ h n => absurd h n, fun _ _ h _ _ => h⟩
theorem Ext.trans (a : Ext ad F H ad1 F1 H1) (b : Ext ad1 F1 H1 ad2 F2 H2) : Ext ad F H ad2 F2 H2 := by
  obtain ⟨t, e⟩ := a.pre
  obtain ⟨u, e'⟩ := b.pre
  refine ⟨⟨t ++ u, by rw [e', e, List.append_assoc]⟩, a.fle.trans b.fle, fun c o h n => ?_, fun c h n => ?_, fun c o h h2 n => ?_⟩
  · refine b.fr c o (a.fr c o h n) fun z => ?_
    have := a.nw c z n
    rw [h] at this; cases this
  · by_cases z : c ∈ ad1
    · exact a.nw c z n
    · have q := b.nw c h z
      cases e : H c with
      | none => rfl
      | some o => rw [a.fr c o e n] at q; cases q
  · refine b.gn c o (a.gn c o h h2 n) (a.fr c o h2 n) fun z => ?_
    have := a.nw c z n
    rw [h2] at this; cases this
theorem Ext.ix (x : Ext ad F H ad1 F1 H1) {i : Nat} {a : Addr} (h : ad[i]? = some a) : ad1[i]? = some a := by
  obtain ⟨t, e⟩ := x.pre
  rw [e, List.getElem?_append_left (List.getElem?_eq_some_iff.mp h).1]
  exact h
theorem RW.ext (x : Ext ad F H ad1 F1 H1) : ∀ {w : W} {v : V}, RW K ad F w v → RW K ad1 F1 w v
  | .d _, _, h => Rp.mono x.fle h
  | .c _, _, ⟨a, h, e⟩ => ⟨a, x.ix h, e⟩
  | .k _, _, ⟨a, vs, e, h, r⟩ => ⟨a, vs, e, x.fle.sqL h, r.mono x.fle⟩
theorem RWs.ext (x : Ext ad F H ad1 F1 H1) : ∀ {w : List W} {v : List V}, RWs K ad F w v → RWs K ad1 F1 w v
  | _, _, .nil => .nil
  | _, _, .cons a b => .cons (a.ext x) (RWs.ext x b)
theorem RWs.len : ∀ {w : List W} {v : List V}, RWs K ad F w v → w.length = v.length
  | _, _, h => Paired.length h
theorem EnvOk.ext (x : Ext ad F H ad1 F1 H1) {r : Rho} {s : St} (h : EnvOk K ad F r s) : EnvOk K ad1 F1 r s :=
  ⟨h.len, fun i w e => let ⟨v, a, b⟩ := h.get i w e; ⟨v, a, b.ext x⟩⟩
theorem EnvOk.set {r : Rho} {s : St} {w : W} {v : V} (h : EnvOk K ad F r s) (i : Nat) (q : RW K ad F w v) : EnvOk K ad F (r.set i (some w)) (s.set i (some v)) := by
  refine ⟨by simp [h.len], fun j w' e => ?_⟩
  by_cases hj : j = i
  · subst hj
    have hl : j < r.length := by
      have := (List.getElem?_eq_some_iff.mp e).1
      simpa using this
    rw [List.getElem?_set_self hl] at e
    cases e
    exact ⟨v, by rw [List.getElem?_set_self (by rw [← h.len]; exact hl)], q⟩
  · rw [List.getElem?_set_ne (Ne.symm hj)] at e
    obtain ⟨v', a, b⟩ := h.get j w' e
    exact ⟨v', by rw [List.getElem?_set_ne (Ne.symm hj)]; exact a, b⟩
theorem RpKV.mono (h : Ord F F1) : ∀ {a : List (Key × V)} {b : List (Key × D)}, RpKV K F a b → RpKV K F1 a b
  | _, _, .nil => .nil
  | _, _, .cons ⟨e, r⟩ t => .cons ⟨e, r.mono h⟩ (RpKV.mono h t)
/-- a new thing that never changes -/
theorem At.new {m : Sto} (h : At K ad m F H) {p : Addr} {o : HO} (hp : H p = none) : At K ad m (upd F p o) (upd H p o) ∧ Ext ad F H ad (upd F p o) (upd H p o) := by
  have fp : F p = none := by
    cases e : F p with
    | none => rfl
    | some u => rw [h.le _ _ e] at hp; cases hp
  have fo : Ord F (upd F p o) := fun a u e => by rw [upd_ne (ne_of_none e fp)]; exact e
  refine ⟨⟨fun a u e => ?_, h.len, h.nd, fun i a c e1 e2 => ?_⟩, ⟨⟨[], by simp⟩, fo, fun a u e n => by rw [upd_ne (ne_of_none e hp)]; exact e, fun a h n => absurd h n, fun a u e e2 n => by rw [upd_ne (ne_of_none e2 hp)]; exact e⟩⟩
  · by_cases q : a = p
    · subst q
      rw [upd_same] at e ⊢
      exact e
    · rw [upd_ne q] at e ⊢
      exact h.le _ _ e
  · have c0 := h.cel i a c e1 e2
    cases c with
    | lst ds =>
      obtain ⟨q, vs, e, r⟩ := c0
      have ne : a ≠ p := ne_of_none e hp
      exact ⟨by rw [upd_ne ne]; exact q, vs, by rw [upd_ne ne]; exact e, r.mono fo⟩
    | fz ds =>
      obtain ⟨vs, e, r⟩ := c0
      exact ⟨vs, fo _ _ e, r.mono fo⟩
    | dk kvs =>
      obtain ⟨q, vs, e, r⟩ := c0
      have ne : a ≠ p := ne_of_none e hp
      exact ⟨by rw [upd_ne ne]; exact q, vs, by rw [upd_ne ne]; exact e, r.mono fo⟩
theorem upd_self {p : Addr} {o : HO} : upd F p o p = some o := upd_same
end
end DL

namespace DL
open PySem L2
section
variable {K : PySem.W.Frag} {ad ad1 ad2 : List Addr} {F F1 F2 H H1 H2 : Hp} {m : Sto}
theorem nodup_ne {l : List Addr} (h : l.Nodup) {i j : Nat} {a b : Addr} (ha : l[i]? = some a) (hb : l[j]? = some b) (n : i ≠ j) : a ≠ b := by
  intro e
  subst e
  obtain ⟨h1, e1⟩ := List.getElem?_eq_some_iff.mp ha
  obtain ⟨h2, e2⟩ := List.getElem?_eq_some_iff.mp hb
  exact n ((List.getElem_inj h).mp (e1.trans e2.symm))
/-- a live cell is written -/
theorem At.write (h : At K ad m F H) {i : Nat} {a : Addr} (ha : ad[i]? = some a) {o : HO} {c : Cell} (fa : F a = none) (hc : CellAt K F (upd H a o) a c) :
    At K ad (m.set i c) F (upd H a o) ∧ Ext ad F H ad F (upd H a o) := by
  refine ⟨⟨fun b u e => ?_, by simp [h.len], h.nd, fun j b c' e1 e2 => ?_⟩, ⟨⟨[], by simp⟩, Ord.refl _, fun b u e n => ?_, fun b h n => absurd h n, fun _ _ h _ _ => h⟩⟩
  · rw [upd_ne (ne_of_none e fa)]; exact h.le _ _ e
  · by_cases hj : j = i
    · subst hj
      rw [ha] at e1; cases e1
      have hl : j < m.length := by
        have := (List.getElem?_eq_some_iff.mp e2).1
        simpa using this
      rw [List.getElem?_set_self hl] at e2
      cases e2
      exact hc
    · rw [List.getElem?_set_ne (Ne.symm hj)] at e2
      have ne : b ≠ a := nodup_ne h.nd e1 ha hj
      have c0 := h.cel j b c' e1 e2
      cases c' with
      | lst ds =>
        obtain ⟨q, vs, e, r⟩ := c0
        exact ⟨q, vs, by rw [upd_ne ne]; exact e, r⟩
      | fz ds => exact c0
      | dk kvs =>
        obtain ⟨q, vs, e, r⟩ := c0
        exact ⟨q, vs, by rw [upd_ne ne]; exact e, r⟩
  · refine (upd_ne fun z => n ?_).trans e
    rw [z]
    exact List.mem_of_getElem? ha
/-- a live list is made data -/
theorem At.freeze (h : At K ad m F H) {i : Nat} {a : Addr} {ds : List D} (ha : ad[i]? = some a) (hm : m[i]? = some (.lst ds)) :
    ∃ vs, H a = some (.lst vs) ∧ RpA K F vs ds ∧ At K ad (m.set i (.fz ds)) (upd F a (.lst vs)) H ∧ Ext ad F H ad (upd F a (.lst vs)) H := by
  obtain ⟨fa, vs, e, r⟩ := h.cel i a _ ha hm
  have fo : Ord F (upd F a (.lst vs)) := fun b u q => by rw [upd_ne (ne_of_none q fa)]; exact q
  refine ⟨vs, e, r, ⟨fun b u q => ?_, by simp [h.len], h.nd, fun j b c' e1 e2 => ?_⟩, ⟨⟨[], by simp⟩, fo, fun b u e n => e, fun b h n => absurd h n, fun b u e e2 n => by rw [upd_ne (show b ≠ a from fun z => n (by rw [z]; exact List.mem_of_getElem? ha))]; exact e⟩⟩
  · by_cases z : b = a
    · subst z; rw [upd_same] at q; cases q; exact e
    · rw [upd_ne z] at q; exact h.le _ _ q
  · by_cases hj : j = i
    · subst hj
      rw [ha] at e1; cases e1
      have hl : j < m.length := (List.getElem?_eq_some_iff.mp hm).1
      rw [List.getElem?_set_self hl] at e2
      cases e2
      exact ⟨vs, upd_same, r.mono fo⟩
    · rw [List.getElem?_set_ne (Ne.symm hj)] at e2
      have ne : b ≠ a := nodup_ne h.nd e1 ha hj
      have c0 := h.cel j b c' e1 e2
      cases c' with
      | lst ds =>
        obtain ⟨q, vs', e', r'⟩ := c0
        exact ⟨by rw [upd_ne ne]; exact q, vs', e', r'.mono fo⟩
      | fz ds =>
        obtain ⟨vs', e', r'⟩ := c0
        exact ⟨vs', fo _ _ e', r'.mono fo⟩
      | dk kvs =>
        obtain ⟨q, vs', e', r'⟩ := c0
        exact ⟨by rw [upd_ne ne]; exact q, vs', e', r'.mono fo⟩
/-- a new object becomes a cell -/
theorem At.alloc (h : At K ad m F H) {p : Addr} {o : HO} {c : Cell} (hp : H p = none) (hc : CellAt K F (upd H p o) p c) (hl : ∀ ds, c ≠ .fz ds) :
    At K (ad ++ [p]) (m ++ [c]) F (upd H p o) ∧ Ext ad F H (ad ++ [p]) F (upd H p o) := by
  have fp : F p = none := by
    cases e : F p with
    | none => rfl
    | some u => rw [h.le _ _ e] at hp; cases hp
  have np : p ∉ ad := fun z => by
    obtain ⟨i, hi⟩ := List.getElem?_of_mem z
    obtain ⟨c', hc'⟩ : ∃ c', m[i]? = some c' := by
      have := (List.getElem?_eq_some_iff.mp hi).1
      exact ⟨m[i]'(by rw [← h.len]; exact this), List.getElem?_eq_getElem _⟩
    have c0 := h.cel i p c' hi hc'
    cases c' with
    | lst ds => obtain ⟨_, vs, e, _⟩ := c0; rw [hp] at e; cases e
    | fz ds => obtain ⟨vs, e, _⟩ := c0; rw [fp] at e; cases e
    | dk kvs => obtain ⟨_, vs, e, _⟩ := c0; rw [hp] at e; cases e
  refine ⟨⟨fun b u e => ?_, by simp [h.len], ?_, fun j b c' e1 e2 => ?_⟩, ⟨⟨[p], rfl⟩, Ord.refl _, fun b u e n => ?_, fun b hb n => ?_, fun _ _ h _ _ => h⟩⟩
  · rw [upd_ne (ne_of_none e fp)]; exact h.le _ _ e
  · rw [List.nodup_append]
    refine ⟨h.nd, by simp, fun a ha b hb z => ?_⟩
    have hb' : b = p := by simpa using hb
    subst hb'
    subst z
    exact np ha
  · by_cases hj : j < ad.length
    · rw [List.getElem?_append_left hj] at e1
      rw [List.getElem?_append_left (by rw [← h.len]; exact hj)] at e2
      have c0 := h.cel j b c' e1 e2
      cases c' with
      | lst ds =>
        obtain ⟨q, vs, e, r⟩ := c0
        exact ⟨q, vs, by rw [upd_ne (ne_of_none e hp)]; exact e, r⟩
      | fz ds => exact c0
      | dk kvs =>
        obtain ⟨q, vs, e, r⟩ := c0
        exact ⟨q, vs, by rw [upd_ne (ne_of_none e hp)]; exact e, r⟩
    · have hlt : j < (ad ++ [p]).length := (List.getElem?_eq_some_iff.mp e1).1
      have hj2 : j = ad.length := by
        rw [List.length_append, List.length_singleton] at hlt
        omega
      subst hj2
      rw [List.getElem?_append_right (Nat.le_refl _), Nat.sub_self] at e1
      rw [List.getElem?_append_right (by rw [h.len]; exact Nat.le_refl _), h.len, Nat.sub_self] at e2
      cases e1
      cases e2
      exact hc
  · rw [upd_ne (ne_of_none e hp)]; exact e
  · rcases List.mem_append.mp hb with z | z
    · exact absurd z n
    · have z' : b = p := by simpa using z
      rw [z']; exact hp

/-! ### outcomes -/
/-- how a raised thing's own dict bears its fields -/
def XR (K : PySem.W.Frag) (F H : Hp) (d : Option Addr) (fs : List (Str × D)) : Prop :=
  (fs = [] ∧ d = none) ∨ ∃ dx vs, d = some dx ∧ H dx = some (.xd vs) ∧ Paired (fun (p : Str × V) (q : Str × D) => p.1 = q.1 ∧ Rp K F p.2 q.2) vs fs
def Post {α : Type} (K : PySem.W.Frag) (ad : List Addr) (F H : Hp) (o : Out α) (q : α → Sto → List Addr → Hp → Hp → Prop) (x : Value → List (Str × D) → Sto → List Addr → Hp → Hp → Prop) : Prop :=
  match o with
  | .ok a m => ∀ ad' F' H', Ext ad F H ad' F' H' → At K ad' m F' H' → q a m ad' F' H'
  | .exc c fs m => ∀ ad' F' H', Ext ad F H ad' F' H' → At K ad' m F' H' → x c fs m ad' F' H'
  | .bad => False
abbrev XQ := Value → List (Str × D) → Sto → List Addr → Hp → Hp → Prop
theorem Post.ext {α : Type} {o : Out α} {q : α → Sto → List Addr → Hp → Hp → Prop} {x : XQ} (h : Post K ad F H o q x) (e : Ext ad F H ad1 F1 H1) : Post K ad1 F1 H1 o q x := by
  cases o with
  | ok a m => exact fun _ _ _ e' h' => h _ _ _ (e.trans e') h'
  | exc c fs m => exact fun _ _ _ e' h' => h _ _ _ (e.trans e') h'
  | bad => exact h
theorem Post.bind {α β : Type} {o : Out α} {g : α → Sto → Out β} {q : β → Sto → List Addr → Hp → Hp → Prop} {x : XQ} (h : Post K ad F H (o.bind g) q x) :
    Post K ad F H o (fun a m ad' F' H' => Ext ad F H ad' F' H' ∧ At K ad' m F' H' ∧ Post K ad' F' H' (g a m) q x) x := by
  cases o with
  | ok a m => exact fun _ _ _ e' h' => ⟨e', h', Post.ext (o := g a m) h e'⟩
  | exc c fs m => exact h
  | bad => exact h
theorem Post.mono {α : Type} {o : Out α} {q q' : α → Sto → List Addr → Hp → Hp → Prop} {x x' : XQ} (h : Post K ad F H o q x)
    (hq : ∀ a m ad' F' H', Ext ad F H ad' F' H' → At K ad' m F' H' → q a m ad' F' H' → q' a m ad' F' H')
    (hx : ∀ c fs m ad' F' H', Ext ad F H ad' F' H' → At K ad' m F' H' → x c fs m ad' F' H' → x' c fs m ad' F' H') : Post K ad F H o q' x' := by
  cases o with
  | ok a m => exact fun _ _ _ e' h' => hq _ _ _ _ _ e' h' (h _ _ _ e' h')
  | exc c fs m => exact fun _ _ _ e' h' => hx _ _ _ _ _ _ e' h' (h _ _ _ e' h')
  | bad => exact h
def XP (K : PySem.W.Frag) (Wx : WX) (s : St) : XQ := fun c fs m ad' F' H' => ∀ d, XR K F' H' d fs → Wx c d s H'
/-- a reading by data: f says what comes -/
def Lf {α β : Type} (K : PySem.W.Frag) (Wx : WX) (R : List Addr → Hp → α → β → Prop) (f : Rho → Sto → Out α) : St → Hp → (β → Hp → Prop) → Prop := fun s H Q =>
  ∃ r ad m F, EnvOk K ad F r s ∧ At K ad m F H ∧ Post K ad F H (f r m) (fun a _ ad' F' H' => ∀ b, R ad' F' a b → Q b H') (XP K Wx s)
/-- the first of two, then what is left -/
theorem Lf.bind {α β γ δ : Type} {Wx : WX} {R : List Addr → Hp → α → β → Prop} {S : List Addr → Hp → γ → δ → Prop} {f : Rho → Sto → Out α} {g : α → Rho → Sto → Out γ} {s : St} {Q : δ → Hp → Prop} {r : Rho}
    (he : EnvOk K ad F r s) (ha : At K ad m F H) (h : Post K ad F H ((f r m).bind fun a => g a r) (fun c _ ad' F' H' => ∀ d, S ad' F' c d → Q d H') (XP K Wx s)) {Q' : β → Hp → Prop}
    (hq : ∀ a b m1 ad1 F1 H1, Ext ad F H ad1 F1 H1 → EnvOk K ad1 F1 r s → At K ad1 m1 F1 H1 → R ad1 F1 a b → Post K ad1 F1 H1 (g a r m1) (fun c _ ad' F' H' => ∀ d, S ad' F' c d → Q d H') (XP K Wx s) → Q' b H1) :
    Lf K Wx R f s H Q' :=
  ⟨r, ad, m, F, he, ha, h.bind.mono (fun a m1 ad1 F1 H1 e1 a1 q b rb => hq a b m1 ad1 F1 H1 e1 (he.ext e1) a1 rb q.2.2) fun _ _ _ _ _ _ _ _ z => z⟩
abbrev Fe := Rho → Sto → Out W
abbrev Ft := Rho → Sto → Out Bool
abbrev Fa := Rho → Sto → Out (List W)
abbrev LE (K : PySem.W.Frag) (Wx : WX) (f : Fe) : TE := Lf K Wx (RW K) f
abbrev LT (K : PySem.W.Frag) (Wx : WX) (f : Ft) : TT := Lf K Wx (fun _ _ a b => a = b) f
abbrev LA (K : PySem.W.Frag) (Wx : WX) (f : Fa) : TA := Lf K Wx (RWs K) f
abbrev LO (K : PySem.W.Frag) (Wx : WX) (f : Rho → Sto → Out (Option Int)) : TO := Lf K Wx (fun _ _ a b => a = b) f
end

/-! ### judgements -/
abbrev DE (X : Cx) (Wx : WX) (e : Expr) (f : Fe) : Prop := PE X e (LE X.K Wx f)
abbrev DT (X : Cx) (Wx : WX) (e : Expr) (f : Ft) : Prop := PT X e (LT X.K Wx f)
abbrev DW (X : Cx) (Wx : WX) (e : Expr) (f : Ft) : Prop := L2.PW X e (LT X.K Wx f)
abbrev DA (X : Cx) (Wx : WX) (e : List Expr) (f : Fa) : Prop := PA X e (LA X.K Wx f)
theorem pe_weak {X : Cx} {e : Expr} {t t' : TE} (h : PE X e t) (w : ∀ s H Q, t' s H Q → t s H Q) : PE X e t' := ⟨fun p s σ H Q I q => h.run p s σ H Q I (w _ _ _ q)⟩
theorem pt_weak {X : Cx} {e : Expr} {t t' : TT} (h : PT X e t) (w : ∀ s H Q, t' s H Q → t s H Q) : PT X e t' := ⟨fun p s σ H Q I q => h.run p s σ H Q I (w _ _ _ q)⟩
theorem pw_weak {X : Cx} {e : Expr} {t t' : TT} (h : L2.PW X e t) (w : ∀ s H Q, t' s H Q → t s H Q) : L2.PW X e t' := ⟨fun wh p s σ H Q I q => h.run wh p s σ H Q I (w _ _ _ q)⟩
theorem pa_weak {X : Cx} {e : List Expr} {t t' : TA} (h : PA X e t) (w : ∀ s H Q, t' s H Q → t s H Q) : PA X e t' := ⟨fun ps p s σ H Q I q => h.run ps p s σ H Q I (w _ _ _ q)⟩
end DL

namespace DL
open PySem L2
/-! ### reading without changing -/
/-- a list: data, a cell, the script -/
def lstOf : W → Sto → Option (List D)
  | .d (.list xs), _ => some xs
  | .c i, m => match m[i]? with | some (.lst xs) => some xs | some (.fz xs) => some xs | _ => none
  | .k xs, _ => some xs
  | _, _ => none
/-- as data, not the script -/
def datOf : W → Sto → Option D
  | .d x, _ => some x
  | .c i, m => match m[i]? with | some (.lst xs) => some (.list xs) | some (.fz xs) => some (.list xs) | _ => none
  | _, _ => none
section
variable {K : PySem.W.Frag} {ad : List Addr} {F H : Hp} {m : Sto} {w : W} {v : V}
theorem At.lst (h : At K ad m F H) (r : RW K ad F w v) {xs : List D} (e : lstOf w m = some xs) : ∃ a vs, v = .ref a ∧ SqL K H a vs ∧ RpA K F vs xs := by
  unfold lstOf at e
  split at e
  · cases e
    cases r with
    | lst q s => exact ⟨_, _, rfl, SqL.of (h.le _ _ q), s⟩
  · rename_i i m'
    obtain ⟨a, ha, rfl⟩ := r
    split at e
    · rename_i ys hm
      cases e
      obtain ⟨_, vs, e1, s⟩ := h.cel _ _ _ ha hm
      exact ⟨a, vs, rfl, SqL.of e1, s⟩
    · rename_i ys hm
      cases e
      obtain ⟨vs, e1, s⟩ := h.cel _ _ _ ha hm
      exact ⟨a, vs, rfl, SqL.of (h.le _ _ e1), s⟩
    · cases e
  · cases e
    obtain ⟨a, vs, rfl, q, s⟩ := r
    exact ⟨a, vs, rfl, h.le.sqL q, s⟩
  · cases e
/-- a list that is tracked as such -/
theorem At.lst' (h : At K ad m F H) (r : RW K ad F w v) {xs : List D} (e : datOf w m = some (.list xs)) : ∃ a vs, v = .ref a ∧ H a = some (.lst vs) ∧ RpA K F vs xs := by
  unfold datOf at e
  split at e
  · cases e
    cases r with
    | lst q s => exact ⟨_, _, rfl, h.le _ _ q, s⟩
  · rename_i i m'
    obtain ⟨a, ha, rfl⟩ := r
    split at e
    · rename_i ys hm
      cases e
      obtain ⟨_, vs, e1, s⟩ := h.cel _ _ _ ha hm
      exact ⟨a, vs, rfl, e1, s⟩
    · rename_i ys hm
      cases e
      obtain ⟨vs, e1, s⟩ := h.cel _ _ _ ha hm
      exact ⟨a, vs, rfl, h.le _ _ e1, s⟩
    · cases e
  · cases e
theorem At.dp (h : At K ad m F H) (r : RW K ad F w v) {x : D} (e : datOf w m = some x) : Dp K H v x := by
  unfold datOf at e
  split at e
  · cases e
    exact (Rp.mono h.le r).dp
  · rename_i i m'
    obtain ⟨a, ha, rfl⟩ := r
    split at e
    · rename_i ys hm
      cases e
      obtain ⟨_, vs, e1, s⟩ := h.cel _ _ _ ha hm
      exact .lst (SqL.of e1) (s.mono h.le).dp
    · rename_i ys hm
      cases e
      obtain ⟨vs, e1, s⟩ := h.cel _ _ _ ha hm
      exact .lst (SqL.of (h.le _ _ e1)) (s.mono h.le).dp
    · cases e
  · cases e
theorem Rp.tupI {x : D} {ds : List D} (r : Rp K F v (.tuple ds)) : ∃ a vs, v = .ref a ∧ SqT K F a vs ∧ RpA K F vs ds := by
  cases r with
  | tup q s => exact ⟨_, _, rfl, q, s⟩
end

/-! ### names, constants -/
def dVar (i : Nat) : Fe := fun r m => match r[i]? with | some (some w) => .ok w m | _ => .bad
def dC (w : D) : Fe := fun _ m => .ok (.d w) m
section
variable {X : Cx} {Wx : WX} {pos : Pos}
theorem de_var (i : Nat) {x : Str} (h : PE X (.Name x pos) (tVar i)) : DE X Wx (.Name x pos) (dVar i) := by
  refine pe_weak h fun s H Q q => ?_
  obtain ⟨r, ad, m, F, he, ha, hp⟩ := q
  unfold dVar at hp
  cases e : r[i]? with
  | none => rw [e] at hp; exact hp.elim
  | some o =>
    cases o with
    | none => rw [e] at hp; exact hp.elim
    | some w =>
      rw [e] at hp
      obtain ⟨v, h1, h2⟩ := he.get i w e
      exact ⟨v, h1, hp ad F H Ext.refl ha v h2⟩
theorem de_const {e : Expr} {v : V} {x : D} (h : PE X e (tC v)) (r : ∀ F, Rp X.K F v x) : DE X Wx e (dC x) := by
  refine pe_weak h fun s H Q q => ?_
  obtain ⟨r', ad, m, F, he, ha, hp⟩ := q
  exact hp ad F H Ext.refl ha v (r F)
theorem de_int {i j} : DE X Wx (.Constant (.int i) j pos) (dC (.int i)) := de_const pe_int fun _ => .int i
theorem de_bl {b j} : DE X Wx (.Constant (.bool b) j pos) (dC (.bool b)) := de_const pe_bl fun _ => .bl b
theorem de_non {j} : DE X Wx (.Constant .none j pos) (dC .none) := de_const pe_non fun _ => .non
theorem de_str {x j} : DE X Wx (.Constant (.str x) j pos) (dC (.str x)) := de_const pe_str fun _ => .str x
end

/-! ### operations on two things -/
/-- an operation by values that makes at most one new thing and changes none -/
def OpD (K : PySem.W.Frag) (r : R2) (g : W → W → Sto → Option W) : Prop := ∀ (x y z : W) (u v : V) (ad : List Addr) (m : Sto) (F H : Hp) (Q : VK),
  RW K ad F x u → RW K ad F y v → At K ad m F H → g x y m = some z → (∀ b F' H', Ext ad F H ad F' H' → At K ad m F' H' → RW K ad F' z b → Q b H') → r u v H Q
def dBin (g : W → W → Sto → Option W) (fa fb : Fe) : Fe := fun r m => (fa r m).bind fun x m1 => (fb r m1).bind fun y m2 => .opt (g x y m2) m2
theorem bin_w {K : PySem.W.Frag} {Wx : WX} {r : R2} {g : W → W → Sto → Option W} {fa fb : Fe} (hg : OpD K r g) {s : St} {H : Hp} {Q : VK} (h : LE K Wx (dBin g fa fb) s H Q) :
    LE K Wx fa s H fun x H1 => LE K Wx fb s H1 fun y H2 => r x y H2 Q := by
  obtain ⟨ρ, ad, m, F, he, ha, hp⟩ := h
  refine Lf.bind (g := fun x r m1 => (fb r m1).bind fun y m2 => .opt (g x y m2) m2) he ha hp fun x u m1 ad1 F1 H1 e1 he1 ha1 ru h1 => ?_
  refine Lf.bind (g := fun y r m2 => .opt (g x y m2) m2) he1 ha1 h1 fun y v m2 ad2 F2 H2 e2 he2 ha2 rv h2 => ?_
  cases e : g x y m2 with
  | none => rw [e] at h2; exact h2.elim
  | some z =>
    rw [e] at h2
    exact hg x y z u v ad2 m2 F2 H2 Q (ru.ext e2) rv ha2 e fun b F' H' x1 x2 x3 => h2 _ _ _ x1 x2 b x3
section
variable {X : Cx} {Wx : WX} {pos : Pos} {a b : Expr} {fa fb : Fe} {r : R2} {g : W → W → Sto → Option W}
theorem de_bin {op : Operator} (ho : OpR X (binaryOp op) r) (hg : OpD X.K r g) (ha : DE X Wx a fa) (hb : DE X Wx b fb) : DE X Wx (.BinOp a op b pos) (dBin g fa fb) :=
  pe_weak (pe_op ho ha hb) fun _ _ _ q => bin_w hg q
theorem de_cmp {op : CmpOp} (ho : OpR X (compareOp op) r) (hg : OpD X.K r g) (ha : DE X Wx a fa) (hb : DE X Wx b fb) (hm : behindInMarks op b = false) : DE X Wx (.Compare a [op] [b] pos) (dBin g fa fb) :=
  pe_weak (pe_cmpR ho ha hb hm) fun _ _ _ q => bin_w hg q
theorem de_ix (hr : IxR X r) (hg : OpD X.K r g) (ha : DE X Wx a fa) (hb : DE X Wx b fb) (hs : PlainIx b) : DE X Wx (.Subscript a b pos) (dBin g fa fb) :=
  pe_weak (pe_ix hr ha hb hs) fun _ _ _ q => bin_w hg q
end
/-- alternatives -/
theorem OpD.or {K : PySem.W.Frag} {r r' : R2} {g : W → W → Sto → Option W} (h : ∀ (x y z : W) (u v : V) (ad : List Addr) (m : Sto) (F H : Hp) (Q : VK),
    RW K ad F x u → RW K ad F y v → At K ad m F H → g x y m = some z → (∀ b F' H', Ext ad F H ad F' H' → At K ad m F' H' → RW K ad F' z b → Q b H') → r u v H Q ∨ r' u v H Q) : OpD K (fun x y H Q => r x y H Q ∨ r' x y H Q) g := h

def gAdd : W → W → Sto → Option W
  | .d (.int i), .d (.int j), _ => some (.d (.int (i + j)))
  | .d (.str x), .d (.str y), _ => if x.length + y.length ≤ sizeLine then some (.d (.str (x ++ y))) else none
  | .d (.tuple xs), .d (.tuple ys), _ => if xs.length + ys.length ≤ sizeLine then some (.d (.tuple (xs ++ ys))) else none
  | a, b, m => match datOf a m, datOf b m with
    | some (.list xs), some (.list ys) => if xs.length + ys.length ≤ sizeLine then some (.d (.list (xs ++ ys))) else none
    | _, _ => none
theorem nil_of_len {K : PySem.W.Frag} {F : Hp} {vs : List V} {ds : List D} (r : RpA K F vs ds) : vs = [] ↔ ds = [] := by
  constructor
  · intro h; subst h; cases r; rfl
  · intro h; subst h; cases r; rfl
theorem od_add {K : PySem.W.Frag} : OpD K (fun x y H Q => rI0 (fun i j => V.int (i + j)) x y H Q ∨ (∃ i j, x = .str i ∧ y = .str j ∧ i.length + j.length ≤ sizeLine ∧ Q (.str (i ++ j)) H) ∨ rCatA K x y H Q ∨ rCat x y H Q) gAdd := by
  intro x y z u v ad m F H Q rx ry ha e q
  unfold gAdd at e
  split at e
  · cases e
    cases rx; cases ry
    exact .inl ⟨_, _, rfl, rfl, q _ F H Ext.refl ha (.int _)⟩
  · split at e
    · cases e
      cases rx; cases ry
      exact .inr (.inl ⟨_, _, rfl, rfl, by assumption, q _ F H Ext.refl ha (.str _)⟩)
    · cases e
  · rename_i xs ys m'
    split at e
    · rename_i hz
      cases e
      cases rx with
      | tup q1 s1 =>
        cases ry with
        | tup q2 s2 =>
          refine .inr (.inr (.inl ⟨_, _, _, _, rfl, rfl, ha.le.sqT q1, ha.le.sqT q2, by rw [s1.len, s2.len]; exact hz, fun h => ?_, fun h1 h2 => ?_, fun _ _ p hp => ?_⟩))
          · have e1 := (nil_of_len s1).mp h
            subst e1
            exact q _ F H Ext.refl ha (.tup q2 s2)
          · have e1 := (nil_of_len s2).mp h2
            subst e1
            rw [List.append_nil] at q
            exact q _ F H Ext.refl ha (.tup q1 s1)
          · obtain ⟨a1, x1⟩ := ha.new (o := .tup (_ ++ _)) hp
            exact q _ _ _ x1 a1 (.tup (SqT.of upd_same) ((s1.mono x1.fle).app (s2.mono x1.fle)))
    · cases e
  · split at e
    · rename_i xs ys h1 h2
      split at e
      · rename_i hz
        cases e
        obtain ⟨a, vs, rfl, q1, s1⟩ := ha.lst' rx h1
        obtain ⟨b, ws, rfl, q2, s2⟩ := ha.lst' ry h2
        refine .inr (.inr (.inr ⟨_, _, _, _, rfl, rfl, q1, q2, by rw [s1.len, s2.len]; exact hz, fun p hp => ?_⟩))
        obtain ⟨a1, x1⟩ := ha.new (o := .lst (_ ++ _)) hp
        exact q _ _ _ x1 a1 (.lst upd_same ((s1.mono x1.fle).app (s2.mono x1.fle)))
      · cases e
    · cases e
theorem or_add {X : Cx} : OpR X (binaryOp .Add) (fun x y H Q => rI0 (fun i j => V.int (i + j)) x y H Q ∨ (∃ i j, x = .str i ∧ y = .str j ∧ i.length + j.length ≤ sizeLine ∧ Q (.str (i ++ j)) H) ∨ rCatA X.K x y H Q ∨ rCat x y H Q) :=
  op_add.or (op_add_str.or (op_catA.or op_cat))

/-- ints -/
def gI (C : Int → Int → Bool) (f : Int → Int → D) : W → W → Sto → Option W
  | .d (.int i), .d (.int j), _ => if C i j = true then some (.d (f i j)) else none
  | _, _, _ => none
theorem od_I {K : PySem.W.Frag} {C : Int → Int → Prop} {B : Int → Int → Bool} {f : Int → Int → V} {g : Int → Int → D} (hc : ∀ i j, B i j = true → C i j) (hf : ∀ F i j, Rp K F (f i j) (g i j)) : OpD K (rI C f) (gI B g) := by
  intro x y z u v ad m F H Q rx ry ha e q
  unfold gI at e
  split at e
  · split at e
    · cases e
      cases rx; cases ry
      exact ⟨_, _, rfl, rfl, hc _ _ (by assumption), q _ F H Ext.refl ha (hf F _ _)⟩
    · cases e
  · cases e
def gI0 (f : Int → Int → D) : W → W → Sto → Option W
  | .d (.int i), .d (.int j), _ => some (.d (f i j))
  | _, _, _ => none
theorem od_I0 {K : PySem.W.Frag} {f : Int → Int → V} {g : Int → Int → D} (hf : ∀ F i j, Rp K F (f i j) (g i j)) : OpD K (rI0 f) (gI0 g) := by
  intro x y z u v ad m F H Q rx ry ha e q
  unfold gI0 at e
  split at e
  · cases e
    cases rx; cases ry
    exact ⟨_, _, rfl, rfl, q _ F H Ext.refl ha (hf F _ _)⟩
  · cases e
abbrev gSub := gI0 fun i j => .int (i - j)
theorem od_sub {K : PySem.W.Frag} : OpD K (rI0 fun i j => V.int (i - j)) gSub := od_I0 fun _ _ _ => .int _
/-- a product: together below a million bits -/
def okMul (i j : Int) : Bool := decide (i.natAbs.log2 + j.natAbs.log2 < 1000000)
abbrev gMul := gI okMul fun i j => .int (i * j)
theorem od_mul {K : PySem.W.Frag} : OpD K (rI CMulW fun i j => V.int (i * j)) gMul := od_I (fun i j h => of_decide_eq_true (p := i.natAbs.log2 + j.natAbs.log2 < 1000000) h) fun _ _ _ => .int _
/-- a small factor, the other one of any size -/
def okMulS (i j : Int) : Bool := decide (i.natAbs < 2 ^ 63) || decide (j.natAbs < 2 ^ 63)
abbrev gMulS := gI okMulS fun i j => .int (i * j)
theorem od_mulS {K : PySem.W.Frag} : OpD K (rI CMul fun i j => V.int (i * j)) gMulS := od_I (fun i j h => by
  unfold okMulS at h
  rcases Bool.or_eq_true_iff.mp h with h | h
  · have := of_decide_eq_true h
    exact .inl ⟨by omega, by omega⟩
  · have := of_decide_eq_true h
    exact .inr ⟨by omega, by omega⟩) fun _ _ _ => .int _
abbrev gMod := gI (fun _ j => decide (j ≠ 0)) fun i j => .int (i.fmod j)
theorem od_mod {K : PySem.W.Frag} : OpD K (rI (fun _ j => j ≠ 0) fun i j => V.int (i.fmod j)) gMod := od_I (fun _ _ h => of_decide_eq_true h) fun _ _ _ => .int _
/-- a divisor below 2 ^ 9000, not 0 (below 0 only small ones) -/
abbrev gDiv := gI (fun _ j => decide (0 < j) && decide (j.natAbs.log2 < 9000)) fun i j => .int (i / j)
theorem od_div {K : PySem.W.Frag} : OpD K (rI CDivW fun i j => V.int (i / j)) gDiv := od_I (fun _ _ h => by
  have := Bool.and_eq_true_iff.mp h
  exact ⟨of_decide_eq_true this.1, of_decide_eq_true this.2⟩) fun _ _ _ => .int _
abbrev gPow := gI (fun i j => decide (0 ≤ j) && decide (j ≤ 1000) && decide (i.natAbs < 2 ^ 64)) fun i j => .int (i ^ j.toNat)
theorem od_pow {K : PySem.W.Frag} : OpD K (rI CPow fun i j => V.int (i ^ j.toNat)) gPow := od_I (fun _ _ h => by
  have h1 := Bool.and_eq_true_iff.mp h
  have h2 := Bool.and_eq_true_iff.mp h1.1
  have a := of_decide_eq_true h2.1
  have b := of_decide_eq_true h2.2
  exact ⟨a, by omega, of_decide_eq_true h1.2⟩) fun _ _ _ => .int _

/-! ### comparisons -/
abbrev gLt := gI0 fun i j => .bool (decide (i < j))
abbrev gLe := gI0 fun i j => .bool (decide (i ≤ j))
abbrev gGt := gI0 fun i j => .bool (decide (j < i))
abbrev gGe := gI0 fun i j => .bool (decide (j ≤ i))
theorem od_lt {K : PySem.W.Frag} : OpD K (rI0 fun i j => V.bl (decide (i < j))) gLt := od_I0 fun _ _ _ => .bl _
theorem od_le {K : PySem.W.Frag} : OpD K (rI0 fun i j => V.bl (decide (i ≤ j))) gLe := od_I0 fun _ _ _ => .bl _
theorem od_gt {K : PySem.W.Frag} : OpD K (rI0 fun i j => V.bl (decide (j < i))) gGt := od_I0 fun _ _ _ => .bl _
theorem od_ge {K : PySem.W.Frag} : OpD K (rI0 fun i j => V.bl (decide (j ≤ i))) gGe := od_I0 fun _ _ _ => .bl _
def gEq : W → W → Sto → Option W := fun a b m => match datOf a m, datOf b m with
  | some x, some y => if SeqAt.shaped x && SeqAt.shaped y then some (.d (.bool (PyData.eqv x y))) else none
  | _, _ => none
def gNe : W → W → Sto → Option W := fun a b m => match datOf a m, datOf b m with
  | some x, some y => if SeqAt.shaped x && SeqAt.shaped y then some (.d (.bool (!PyData.eqv x y))) else none
  | _, _ => none
theorem od_eq {K : PySem.W.Frag} : OpD K (rEqD K) gEq := by
  intro x y z u v ad m F H Q rx ry ha e q
  unfold gEq at e
  split at e
  · rename_i d1 d2 h1 h2
    split at e
    · rename_i hs
      cases e
      have := Bool.and_eq_true_iff.mp hs
      exact ⟨_, _, ha.dp rx h1, ha.dp ry h2, this.1, this.2, q _ F H Ext.refl ha (.bl _)⟩
    · cases e
  · cases e
theorem od_ne {K : PySem.W.Frag} : OpD K (rNeD K) gNe := by
  intro x y z u v ad m F H Q rx ry ha e q
  unfold gNe at e
  split at e
  · rename_i d1 d2 h1 h2
    split at e
    · rename_i hs
      cases e
      have := Bool.and_eq_true_iff.mp hs
      exact ⟨_, _, ha.dp rx h1, ha.dp ry h2, this.1, this.2, q _ F H Ext.refl ha (.bl _)⟩
    · cases e
  · cases e
/-- texts -/
def gS (f : Str → Str → D) : W → W → Sto → Option W
  | .d (.str i), .d (.str j), _ => some (.d (f i j))
  | _, _, _ => none
theorem od_S {K : PySem.W.Frag} {f : Str → Str → V} {g : Str → Str → D} (hf : ∀ F i j, Rp K F (f i j) (g i j)) : OpD K (fun x y H Q => ∃ i j, x = .str i ∧ y = .str j ∧ Q (f i j) H) (gS g) := by
  intro x y z u v ad m F H Q rx ry ha e q
  unfold gS at e
  split at e
  · cases e
    cases rx; cases ry
    exact ⟨_, _, rfl, rfl, q _ F H Ext.refl ha (hf F _ _)⟩
  · cases e
abbrev gLtS := gS fun i j => .bool (decide (i.cps.toList < j.cps.toList))
theorem od_ltS {K : PySem.W.Frag} : OpD K (fun x y H Q => ∃ i j, x = .str i ∧ y = .str j ∧ Q (.bl (decide (i.cps.toList < j.cps.toList))) H) gLtS := od_S fun _ _ _ => .bl _
/-- None -/
def gIsN : W → W → Sto → Option W
  | .d .none, .d .none, _ => some (.d (.bool true))
  | _, .d .none, _ => some (.d (.bool false))
  | _, _, _ => none
def gNotN : W → W → Sto → Option W
  | .d .none, .d .none, _ => some (.d (.bool false))
  | _, .d .none, _ => some (.d (.bool true))
  | _, _, _ => none
theorem not_none {K : PySem.W.Frag} {ad : List Addr} {F : Hp} {x : W} {u : V} (r : RW K ad F x u) (h : x ≠ .d .none) : u ≠ .non := by
  cases x with
  | d y =>
    intro e
    subst e
    cases r
    exact h rfl
  | c i => obtain ⟨_, _, e⟩ := r; rw [e]; exact fun z => nomatch z
  | k i => obtain ⟨_, _, e, _⟩ := r; rw [e]; exact fun z => nomatch z
theorem od_isN {K : PySem.W.Frag} : OpD K (fun x y H Q => y = .non ∧ Q (.bl (decide (x = .non))) H) gIsN := by
  intro x y z u v ad m F H Q rx ry ha e q
  unfold gIsN at e
  split at e
  · cases e; cases rx; cases ry
    exact ⟨rfl, q _ F H Ext.refl ha (.bl true)⟩
  · rename_i h
    cases e; cases ry
    have hn := not_none rx (fun z => h z)
    refine ⟨rfl, ?_⟩
    rw [decide_eq_false hn]
    exact q _ F H Ext.refl ha (.bl false)
  · cases e
theorem od_notN {K : PySem.W.Frag} : OpD K (fun x y H Q => y = .non ∧ Q (.bl (!decide (x = .non))) H) gNotN := by
  intro x y z u v ad m F H Q rx ry ha e q
  unfold gNotN at e
  split at e
  · cases e; cases rx; cases ry
    exact ⟨rfl, q _ F H Ext.refl ha (.bl false)⟩
  · rename_i h
    cases e; cases ry
    have hn := not_none rx (fun z => h z)
    refine ⟨rfl, ?_⟩
    rw [decide_eq_false hn]
    exact q _ F H Ext.refl ha (.bl true)
  · cases e

/-! ### subscripts -/
def gIx : W → W → Sto → Option W
  | .d (.tuple xs), .d (.int i), _ => (atI xs i).map .d
  | .d (.str x), .d (.int i), _ => if x.length ≤ sizeLine then (atI x.cps.toList i).map fun c => .d (.str ⟨#[c]⟩) else none
  | a, .d (.int i), m => match lstOf a m with | some xs => (atI xs i).map .d | none => none
  | _, _, _ => none
theorem atI_of {K : PySem.W.Frag} {F : Hp} {vs : List V} {ds : List D} (r : RpA K F vs ds) {i : Int} {x : D} (h : atI ds i = some x) : ∃ v, atI vs i = some v ∧ Rp K F v x := by
  unfold atI at h ⊢
  rw [r.len]
  cases e : ixN ds.length i with
  | none => rw [e] at h; cases h
  | some j =>
    rw [e] at h
    exact r.get h
theorem od_ix {K : PySem.W.Frag} : OpD K (rIx K) gIx := by
  intro x y z u v ad m F H Q rx ry ha e q
  unfold gIx at e
  split at e
  · cases ry
    cases rx with
    | tup q1 s1 =>
      obtain ⟨d, hd, rfl⟩ := Option.map_eq_some_iff.mp e
      obtain ⟨w, hw, rw'⟩ := atI_of s1 hd
      exact .inr (.inl ⟨_, _, _, _, rfl, rfl, ha.le.sqT q1, hw, q _ F H Ext.refl ha rw'⟩)
  · cases ry
    cases rx
    split at e
    · obtain ⟨c, hc, rfl⟩ := Option.map_eq_some_iff.mp e
      exact .inr (.inr ⟨_, _, _, rfl, rfl, by assumption, hc, q _ F H Ext.refl ha (.str _)⟩)
    · cases e
  · cases ry
    split at e
    · rename_i xs hl
      obtain ⟨a, vs, rfl, q1, s1⟩ := ha.lst rx hl
      obtain ⟨d, hd, rfl⟩ := Option.map_eq_some_iff.mp e
      obtain ⟨w, hw, rw'⟩ := atI_of s1 hd
      exact .inl ⟨_, _, _, _, rfl, rfl, q1, hw, q _ F H Ext.refl ha rw'⟩
    · cases e
  · cases e
end DL

namespace DL
open PySem L2
/-! ### truth -/
def truD : D → Bool
  | .none => false
  | .bool b => b
  | .int i => i != 0
  | .str x => x.length != 0
  | .list xs => !xs.isEmpty
  | .tuple xs => !xs.isEmpty
  | .dict _ => false
def tru : W → Sto → Option Bool
  | .d (.str x), _ => if x.length ≤ sizeLine then some (x.length != 0) else none
  | .d x, _ => some (truD x)
  | .c i, m => match m[i]? with | some (.lst xs) => some (!xs.isEmpty) | some (.fz xs) => some (!xs.isEmpty) | some (.dk xs) => some (!xs.isEmpty) | _ => none
  | .k xs, _ => some (!xs.isEmpty)
theorem RpA.emp {K : PySem.W.Frag} {F : Hp} {vs : List V} {ds : List D} (r : RpA K F vs ds) : vs.isEmpty = ds.isEmpty := by cases r <;> rfl
theorem RpKV.emp {K : PySem.W.Frag} {F : Hp} : ∀ {a : List (Key × V)} {b : List (Key × D)}, RpKV K F a b → a.isEmpty = b.isEmpty
  | _, _, .nil => rfl
  | _, _, .cons _ _ => rfl
theorem nat_ne_zero (n : Nat) : (n != 0) = ((n : Int) != 0) := by cases n <;> rfl
theorem tru_w {K : PySem.W.Frag} {ad : List Addr} {F H : Hp} {m : Sto} {w : W} {v : V} {b : Bool} (h : At K ad m F H) (r : RW K ad F w v) (e : tru w m = some b) : TruV K v H b := by
  unfold tru at e
  split at e
  · cases r
    split at e
    · cases e
      rename_i x hx
      refine ⟨hx, ?_⟩
      exact nat_ne_zero x.length
    · cases e
  · rename_i x m' hx
    cases e
    cases r with
    | non => rfl
    | bl b => rfl
    | int i => rfl
    | str x => exact absurd rfl (hx x)
    | lst q s => exact .inl ⟨_, SqL.of (h.le _ _ q), by show (!_) = (!_); rw [s.emp]⟩
    | tup q s => exact .inr (.inl ⟨_, h.le.sqT q, by show (!_) = (!_); rw [s.emp]⟩)
  · rename_i i m'
    obtain ⟨a, ha, rfl⟩ := r
    split at e
    · cases e
      obtain ⟨_, vs, e1, s⟩ := h.cel _ _ _ ha (by assumption)
      exact .inl ⟨_, SqL.of e1, by rw [s.emp]⟩
    · cases e
      obtain ⟨vs, e1, s⟩ := h.cel _ _ _ ha (by assumption)
      exact .inl ⟨_, SqL.of (h.le _ _ e1), by rw [s.emp]⟩
    · cases e
      obtain ⟨_, vs, e1, s⟩ := h.cel _ _ _ ha (by assumption)
      exact .inr (.inr ⟨_, e1, by rw [RpKV.emp s]⟩)
    · cases e
  · cases e
    obtain ⟨a, vs, rfl, q, s⟩ := r
    exact .inl ⟨_, h.le.sqL q, by rw [s.emp]⟩

/-! ### tests -/
def dTru (f : Fe) : Ft := fun r m => (f r m).bind fun w m1 => .opt (tru w m1) m1
def dIsT (f : Fe) : Ft := fun r m => (f r m).bind fun w m1 => match w with | .d (.bool b) => .ok b m1 | _ => .bad
def dNotT (f : Ft) : Ft := fun r m => (f r m).bind fun b m1 => .ok (!b) m1
def dAndT (f g : Ft) : Ft := fun r m => (f r m).bind fun b m1 => if b then g r m1 else .ok false m1
def dOrT (f g : Ft) : Ft := fun r m => (f r m).bind fun b m1 => if b then .ok true m1 else g r m1
/-- as values -/
def dAnd (f g : Fe) : Fe := fun r m => (f r m).bind fun w m1 => match tru w m1 with | some true => g r m1 | some false => .ok w m1 | none => .bad
def dOr (f g : Fe) : Fe := fun r m => (f r m).bind fun w m1 => match tru w m1 with | some true => .ok w m1 | some false => g r m1 | none => .bad
def dNot (f : Fe) : Fe := fun r m => (f r m).bind fun w m1 => match tru w m1 with | some b => .ok (.d (.bool (!b))) m1 | none => .bad
def dIf (t : Ft) (f g : Fe) : Fe := fun r m => (t r m).bind fun b m1 => if b then f r m1 else g r m1
def dUn (g : W → Option W) (f : Fe) : Fe := fun r m => (f r m).bind fun w m1 => .opt (g w) m1
def gNeg : W → Option W
  | .d (.int i) => some (.d (.int (-i)))
  | _ => none
section
variable {X : Cx} {Wx : WX} {pos : Pos} {a b c : Expr} {fa fb : Fe} {ta tb : Ft} {rest : List Expr}
theorem dt_tru (ha : DE X Wx a fa) (he : ∀ whole, isTrue a X.env whole = (do let v ← whole; standAt a.pos; holding [v] (truthy v))) : DT X Wx a (dTru fa) := by
  refine pt_weak (pt_truth ha he) fun s H Q q => ?_
  obtain ⟨r, ad, m, F, he, hA, hp⟩ := q
  refine ⟨_, _, _, _, he, hA, Post.mono (Post.bind hp) (fun w m1 ad1 F1 H1 e1 ha1 q0 v rw1 => ?_) fun _ _ _ _ _ _ _ _ z => z⟩
  obtain ⟨_, _, h1⟩ := q0
  have he1 := EnvOk.ext e1 he
  cases e : tru w m1 with
  | none => rw [e] at h1; exact h1.elim
  | some k =>
    rw [e] at h1
    exact ⟨k, tru_w ha1 rw1 e, h1 _ _ _ Ext.refl ha1 k rfl⟩
/-- a test whose value is a truth, by its comparison -/
theorem dt_cmp {op : CmpOp} {r : R2} {g : W → W → Sto → Option W} (ho : OpR X (compareOp op) r) (hg : OpD X.K r g) (ha : DE X Wx a fa) (hb : DE X Wx b fb) (hm : behindInMarks op b = false) : DT X Wx (.Compare a [op] [b] pos) (dIsT (dBin g fa fb)) := by
  refine pt_weak (pt_cmpR ho ha hb hm) fun s H Q q => ?_
  obtain ⟨r, ad, m, F, he, hA, hp⟩ := q
  have h : LE X.K Wx (dBin g fa fb) s H fun x H' => ∃ k, x = .bl k ∧ Q k H' := by
    refine ⟨r, ad, m, F, he, hA, hp.bind.mono (fun w m1 ad1 F1 H1 e1 a1 q b rb => ?_) fun _ _ _ _ _ _ _ _ z => z⟩
    obtain ⟨_, _, q⟩ := q
    split at q
    · cases rb
      exact ⟨_, rfl, q _ _ _ Ext.refl a1 _ rfl⟩
    · exact q.elim
  exact bin_w hg h
theorem dt_not (ha : DT X Wx a ta) : DT X Wx (.UnaryOp .Not a pos) (dNotT ta) := by
  refine pt_weak (pt_not ha) fun s H Q q => ?_
  obtain ⟨r, ad, m, F, he, hA, hp⟩ := q
  refine ⟨_, _, _, _, he, hA, Post.mono (Post.bind hp) (fun w m1 ad1 F1 H1 e1 ha1 q0 v rw1 => ?_) fun _ _ _ _ _ _ _ _ z => z⟩
  obtain ⟨_, _, h1⟩ := q0
  have he1 := EnvOk.ext e1 he
  subst rw1
  exact h1 _ _ _ Ext.refl ha1 _ rfl
theorem dw_and1 (ha : DT X Wx a ta) : DW X Wx (.BoolOp .And [a] pos) ta := pw_and1 ha
theorem dw_or1 (ha : DT X Wx a ta) : DW X Wx (.BoolOp .Or [a] pos) ta := pw_or1 ha
theorem dw_and (ha : DT X Wx a ta) (hb : DW X Wx (.BoolOp .And (b :: rest) pos) tb) : DW X Wx (.BoolOp .And (a :: b :: rest) pos) (dAndT ta tb) := by
  refine pw_weak (pw_and ha hb) fun s H Q q => ?_
  obtain ⟨r, ad, m, F, he, hA, hp⟩ := q
  refine ⟨_, _, _, _, he, hA, Post.mono (Post.bind hp) (fun w m1 ad1 F1 H1 e1 ha1 q0 v rw1 => ?_) fun _ _ _ _ _ _ _ _ z => z⟩
  obtain ⟨_, _, h1⟩ := q0
  have he1 := EnvOk.ext e1 he
  subst rw1
  cases w with
  | true => exact ⟨r, ad1, m1, F1, he1, ha1, h1⟩
  | false => exact h1 _ _ _ Ext.refl ha1 _ rfl
theorem dw_or (ha : DT X Wx a ta) (hb : DW X Wx (.BoolOp .Or (b :: rest) pos) tb) : DW X Wx (.BoolOp .Or (a :: b :: rest) pos) (dOrT ta tb) := by
  refine pw_weak (pw_or ha hb) fun s H Q q => ?_
  obtain ⟨r, ad, m, F, he, hA, hp⟩ := q
  refine ⟨_, _, _, _, he, hA, Post.mono (Post.bind hp) (fun w m1 ad1 F1 H1 e1 ha1 q0 v rw1 => ?_) fun _ _ _ _ _ _ _ _ z => z⟩
  obtain ⟨_, _, h1⟩ := q0
  have he1 := EnvOk.ext e1 he
  subst rw1
  cases w with
  | true => exact h1 _ _ _ Ext.refl ha1 _ rfl
  | false => exact ⟨r, ad1, m1, F1, he1, ha1, h1⟩
theorem DW.pt (h : DW X Wx a ta) : DT X Wx a ta := h.run _ |> fun z => ⟨z⟩
theorem de_one {op} (h : DE X Wx a fa) : DE X Wx (.BoolOp op [a] pos) fa := pe_one h
theorem de_and (ha : DE X Wx a fa) (hb : DE X Wx (.BoolOp .And (b :: rest) pos) fb) : DE X Wx (.BoolOp .And (a :: b :: rest) pos) (dAnd fa fb) := by
  refine pe_weak (pe_andT ha hb) fun s H Q q => ?_
  obtain ⟨r, ad, m, F, he, hA, hp⟩ := q
  refine ⟨_, _, _, _, he, hA, Post.mono (Post.bind hp) (fun w m1 ad1 F1 H1 e1 ha1 q0 v rw1 => ?_) fun _ _ _ _ _ _ _ _ z => z⟩
  obtain ⟨_, _, h1⟩ := q0
  have he1 := EnvOk.ext e1 he
  cases e : tru w m1 with
  | none => rw [e] at h1; exact h1.elim
  | some k =>
    rw [e] at h1
    refine ⟨k, tru_w ha1 rw1 e, ?_⟩
    cases k with
    | true => exact iteT ⟨r, ad1, m1, F1, he1, ha1, h1⟩
    | false => exact iteF (h1 _ _ _ Ext.refl ha1 _ rw1)
theorem de_or (ha : DE X Wx a fa) (hb : DE X Wx (.BoolOp .Or (b :: rest) pos) fb) : DE X Wx (.BoolOp .Or (a :: b :: rest) pos) (dOr fa fb) := by
  refine pe_weak (pe_orT ha hb) fun s H Q q => ?_
  obtain ⟨r, ad, m, F, he, hA, hp⟩ := q
  refine ⟨_, _, _, _, he, hA, Post.mono (Post.bind hp) (fun w m1 ad1 F1 H1 e1 ha1 q0 v rw1 => ?_) fun _ _ _ _ _ _ _ _ z => z⟩
  obtain ⟨_, _, h1⟩ := q0
  have he1 := EnvOk.ext e1 he
  cases e : tru w m1 with
  | none => rw [e] at h1; exact h1.elim
  | some k =>
    rw [e] at h1
    refine ⟨k, tru_w ha1 rw1 e, ?_⟩
    cases k with
    | true => exact iteT (h1 _ _ _ Ext.refl ha1 _ rw1)
    | false => exact iteF ⟨r, ad1, m1, F1, he1, ha1, h1⟩
theorem de_not (ha : DE X Wx a fa) : DE X Wx (.UnaryOp .Not a pos) (dNot fa) := by
  refine pe_weak (pe_notT ha) fun s H Q q => ?_
  obtain ⟨r, ad, m, F, he, hA, hp⟩ := q
  refine ⟨_, _, _, _, he, hA, Post.mono (Post.bind hp) (fun w m1 ad1 F1 H1 e1 ha1 q0 v rw1 => ?_) fun _ _ _ _ _ _ _ _ z => z⟩
  obtain ⟨_, _, h1⟩ := q0
  have he1 := EnvOk.ext e1 he
  cases e : tru w m1 with
  | none => rw [e] at h1; exact h1.elim
  | some k =>
    rw [e] at h1
    exact ⟨k, tru_w ha1 rw1 e, h1 _ _ _ Ext.refl ha1 _ (.bl _)⟩
theorem de_if (hc : DT X Wx c ta) (ha : DE X Wx a fa) (hb : DE X Wx b fb) : DE X Wx (.IfExp c a b pos) (dIf ta fa fb) := by
  refine pe_weak (pe_ifExp hc ha hb) fun s H Q q => ?_
  obtain ⟨r, ad, m, F, he, hA, hp⟩ := q
  refine ⟨_, _, _, _, he, hA, Post.mono (Post.bind hp) (fun w m1 ad1 F1 H1 e1 ha1 q0 v rw1 => ?_) fun _ _ _ _ _ _ _ _ z => z⟩
  obtain ⟨_, _, h1⟩ := q0
  have he1 := EnvOk.ext e1 he
  subst rw1
  cases w with
  | true => exact ⟨r, ad1, m1, F1, he1, ha1, h1⟩
  | false => exact ⟨r, ad1, m1, F1, he1, ha1, h1⟩
theorem de_neg (ha : DE X Wx a fa) : DE X Wx (.UnaryOp .USub a pos) (dUn gNeg fa) := by
  refine pe_weak (pe_un un_neg ha) fun s H Q q => ?_
  obtain ⟨r, ad, m, F, he, hA, hp⟩ := q
  refine ⟨_, _, _, _, he, hA, Post.mono (Post.bind hp) (fun w m1 ad1 F1 H1 e1 ha1 q0 v rw1 => ?_) fun _ _ _ _ _ _ _ _ z => z⟩
  obtain ⟨_, _, h1⟩ := q0
  have he1 := EnvOk.ext e1 he
  cases e : gNeg w with
  | none => rw [e] at h1; exact h1.elim
  | some z =>
    rw [e] at h1
    unfold gNeg at e
    split at e
    · cases e
      cases rw1
      exact ⟨_, rfl, h1 _ _ _ Ext.refl ha1 _ (.int _)⟩
    · cases e
/-- a < b < c -/
def dChain (g g' : W → W → Sto → Option W) (fa fb fc : Fe) : Fe := fun r m => (fa r m).bind fun x m1 => (fb r m1).bind fun y m2 =>
  match g x y m2 with
  | some (.d (.bool true)) => (fc r m2).bind fun z m3 => .opt (g' y z m3) m3
  | some (.d (.bool false)) => .ok (.d (.bool false)) m2
  | _ => .bad
theorem chain_w {K : PySem.W.Frag} {Wx : WX} {fa fb fc : Fe} {r r' : R2} {g g' : W → W → Sto → Option W} (hg : OpD K r g) (hg' : OpD K r' g') {s : L2.St} {H : Hp} {Q : VK} (q : LE K Wx (dChain g g' fa fb fc) s H Q) :
    tChain r r' (LE K Wx fa) (LE K Wx fb) (LE K Wx fc) s H Q := by
  obtain ⟨ρ, ad, m, F, he, hA, hp⟩ := q
  refine ⟨_, _, _, _, he, hA, Post.mono (Post.bind hp) (fun x m1 ad1 F1 H1 e1 ha1 q0 u ru => ?_) fun _ _ _ _ _ _ _ _ z => z⟩
  obtain ⟨_, _, h1⟩ := q0
  have he1 := EnvOk.ext e1 he
  refine ⟨_, _, _, _, he1, ha1, Post.mono (Post.bind h1) (fun y m2 ad2 F2 H2 e2 ha2 q0 v rv => ?_) fun _ _ _ _ _ _ _ _ z => z⟩
  obtain ⟨_, _, h2⟩ := q0
  have he2 := EnvOk.ext e2 he1
  cases e : g x y m2 with
  | none => rw [e] at h2; exact h2.elim
  | some z =>
    rw [e] at h2
    refine hg x y z u v ad2 m2 F2 H2 _ (ru.ext e2) rv ha2 e fun b F' H' x1 x2 x3 => ?_
    cases z with
    | d dd =>
      cases dd with
      | bool k =>
        cases x3
        refine ⟨k, rfl, ?_⟩
        cases k with
        | true =>
          refine iteT ?_
          have h3 := Post.ext h2 x1
          refine Lf.bind (g := fun z r m3 => .opt (g' y z m3) m3) (he2.ext x1) x2 h3 fun z w m3 ad3 F3 H3 e3 he3 ha3 rz h4 => ?_
          cases e' : g' y z m3 with
          | none => rw [e'] at h4; exact h4.elim
          | some zz =>
            rw [e'] at h4
            exact hg' y z zz v w ad3 m3 F3 H3 Q ((rv.ext x1).ext e3) rz ha3 e' fun b' F' H' y1 y2 y3 => h4 _ _ _ y1 y2 b' y3
        | false => exact iteF (h2 _ _ _ x1 x2 _ (.bl false))
      | none => exact h2.elim
      | int _ => exact h2.elim
      | str _ => exact h2.elim
      | list _ => exact h2.elim
      | tuple _ => exact h2.elim
      | dict _ => exact h2.elim
    | c _ => exact h2.elim
    | k _ => exact h2.elim
theorem de_chain {fc : Fe} {op op' : CmpOp} {r r' : R2} {g g' : W → W → Sto → Option W} (ho : OpR X (compareOp op) r) (ho' : OpR X (compareOp op') r') (hg : OpD X.K r g) (hg' : OpD X.K r' g') (ha : DE X Wx a fa) (hb : DE X Wx b fb) (hc : DE X Wx c fc)
    (h : PE X (.Compare a [op, op'] [b, c] pos) (tChain r r' (LE X.K Wx fa) (LE X.K Wx fb) (LE X.K Wx fc))) : DE X Wx (.Compare a [op, op'] [b, c] pos) (dChain g g' fa fb fc) := pe_weak h fun _ _ _ q => chain_w hg hg' q
end

/-! ### arguments, displays -/
def dNil : Fa := fun _ m => .ok [] m
def dCons (f : Fe) (fs : Fa) : Fa := fun r m => (f r m).bind fun w m1 => (fs r m1).bind fun ws m2 => .ok (w :: ws) m2
section
variable {X : Cx} {Wx : WX} {pos : Pos} {e : Expr} {es : List Expr} {f : Fe} {fs : Fa}
theorem da_nil : DA X Wx [] dNil := pa_weak pa_nil fun s H Q q => by
  obtain ⟨r, ad, m, F, he, hA, hp⟩ := q
  exact hp _ _ _ Ext.refl hA [] .nil
theorem da_cons (h : DE X Wx e f) (hs : DA X Wx es fs) (hst : starEach (e :: es) X.env = (false, eval e X.env) :: starEach es X.env := by rfl) : DA X Wx (e :: es) (dCons f fs) := by
  refine pa_weak (pa_cons h hs hst) fun s H Q q => ?_
  obtain ⟨r, ad, m, F, he, hA, hp⟩ := q
  refine ⟨_, _, _, _, he, hA, Post.mono (Post.bind hp) (fun w m1 ad1 F1 H1 e1 ha1 q0 v rw1 => ?_) fun _ _ _ _ _ _ _ _ z => z⟩
  obtain ⟨_, _, h1⟩ := q0
  have he1 := EnvOk.ext e1 he
  refine ⟨_, _, _, _, he1, ha1, Post.mono (Post.bind h1) (fun ws m2 ad2 F2 H2 e2 ha2 q0 vs rw2 => ?_) fun _ _ _ _ _ _ _ _ z => z⟩
  obtain ⟨_, _, h2⟩ := q0
  have he2 := EnvOk.ext e2 he1
  exact h2 _ _ _ Ext.refl ha2 _ (.cons (rw1.ext e2) rw2)
end
/-- made data: what is put into a thing -/
def frz : W → Sto → Option (D × Sto)
  | .d x, m => some (x, m)
  | .c i, m => match m[i]? with | some (.lst xs) => some (.list xs, m.set i (.fz xs)) | some (.fz xs) => some (.list xs, m) | _ => none
  | .k _, _ => none
def frzs : List W → Sto → Option (List D × Sto)
  | [], m => some ([], m)
  | w :: ws, m => match frz w m with
    | some (x, m1) => match frzs ws m1 with | some (xs, m2) => some (x :: xs, m2) | none => none
    | none => none
section
variable {K : PySem.W.Frag} {ad : List Addr}
theorem frz_w {F H : Hp} {m m' : Sto} {w : W} {v : V} {x : D} (h : At K ad m F H) (r : RW K ad F w v) (e : frz w m = some (x, m')) : ∃ F', At K ad m' F' H ∧ Ext ad F H ad F' H ∧ Rp K F' v x := by
  unfold frz at e
  split at e
  · cases e
    exact ⟨F, h, Ext.refl, r⟩
  · rename_i i mm
    obtain ⟨a, ha, rfl⟩ := r
    split at e
    · rename_i xs hm
      cases e
      obtain ⟨vs, e1, s, h', x'⟩ := h.freeze ha hm
      exact ⟨_, h', x', .lst upd_same (s.mono x'.fle)⟩
    · rename_i xs hm
      cases e
      obtain ⟨vs, e1, s⟩ := h.cel _ _ _ ha hm
      exact ⟨F, h, Ext.refl, .lst e1 s⟩
    · cases e
  · cases e
theorem frzs_w : ∀ {ws : List W} {vs : List V} {F H : Hp} {m m' : Sto} {xs : List D}, At K ad m F H → RWs K ad F ws vs → frzs ws m = some (xs, m') → ∃ F', At K ad m' F' H ∧ Ext ad F H ad F' H ∧ RpA K F' vs xs
  | [], _, F, H, m, m', xs, h, r, e => by
    cases r
    simp only [frzs, Option.some.injEq, Prod.mk.injEq] at e
    obtain ⟨rfl, rfl⟩ := e
    exact ⟨F, h, Ext.refl, .nil⟩
  | w :: ws, _, F, H, m, m', xs, h, r, e => by
    cases r with
    | cons r1 r2 =>
      unfold frzs at e
      split at e
      · rename_i x m1 e1
        split at e
        · rename_i ys m2 e2
          cases e
          obtain ⟨F1, h1, x1, p1⟩ := frz_w h r1 e1
          obtain ⟨F2, h2, x2, p2⟩ := frzs_w h1 (RWs.ext x1 r2) e2
          exact ⟨F2, h2, x1.trans x2, .cons (p1.mono x2.fle) p2⟩
        · cases e
      · cases e
end
def dTup (f : Fa) : Fe := fun r m => (f r m).bind fun ws m1 => match frzs ws m1 with | some (ds, m2) => if ds.length ≤ sizeLine then .ok (.d (.tuple ds)) m2 else .bad | none => .bad
section
variable {K : PySem.W.Frag} {ad ad1 : List Addr} {F F1 H H1 : Hp} {m : Sto}
theorem At.out (h : At K ad m F H) {p : Addr} (hp : H p = none) : p ∉ ad ∧ F p = none := by
  have fp : F p = none := by
    cases e : F p with
    | none => rfl
    | some u => rw [h.le _ _ e] at hp; cases hp
  refine ⟨fun z => ?_, fp⟩
  obtain ⟨i, hi⟩ := List.getElem?_of_mem z
  have hl : i < m.length := by rw [← h.len]; exact (List.getElem?_eq_some_iff.mp hi).1
  have c0 := h.cel i p m[i] hi (List.getElem?_eq_getElem hl)
  cases e : m[i] with
  | lst ds => rw [e] at c0; obtain ⟨_, vs, e, _⟩ := c0; rw [hp] at e; cases e
  | fz ds => rw [e] at c0; obtain ⟨vs, e, _⟩ := c0; rw [fp] at e; cases e
  | dk kvs => rw [e] at c0; obtain ⟨_, vs, e, _⟩ := c0; rw [hp] at e; cases e
/-- a new object beside all that is told -/
theorem At.room (h : At K ad m F H) {p : Addr} {o : HO} (hp : H p = none) : At K ad m F (upd H p o) ∧ Ext ad F H ad F (upd H p o) := by
  refine ⟨⟨fun a u e => ?_, h.len, h.nd, fun i a c e1 e2 => ?_⟩, ⟨⟨[], by simp⟩, Ord.refl _, fun a u e n => by rw [upd_ne (ne_of_none e hp)]; exact e, fun a h n => absurd h n, fun _ _ h _ _ => h⟩⟩
  · rw [upd_ne (ne_of_none (h.le _ _ e) hp)]; exact h.le _ _ e
  · have c0 := h.cel i a c e1 e2
    cases c with
    | lst ds =>
      obtain ⟨q, vs, e, r⟩ := c0
      exact ⟨q, vs, by rw [upd_ne (ne_of_none e hp)]; exact e, r⟩
    | fz ds => exact c0
    | dk kvs =>
      obtain ⟨q, vs, e, r⟩ := c0
      exact ⟨q, vs, by rw [upd_ne (ne_of_none e hp)]; exact e, r⟩
/-- such an object is made data -/
theorem At.adopt (h : At K ad1 m F1 H1) (x : Ext ad F H ad1 F1 H1) {p : Addr} {o : HO} (h0 : H p = none) (hp : H1 p = some o) (fp : F1 p = none) (np : p ∉ ad1) : At K ad1 m (upd F1 p o) H1 ∧ Ext ad F H ad1 (upd F1 p o) H1 := by
  have fo : Ord F1 (upd F1 p o) := fun b u q => by rw [upd_ne (ne_of_none q fp)]; exact q
  refine ⟨⟨fun a u e => ?_, h.len, h.nd, fun i a c e1 e2 => ?_⟩, ⟨x.pre, x.fle.trans fo, x.fr, x.nw, fun b u e e2 n => by rw [upd_ne (ne_of_none e2 h0)]; exact x.gn b u e e2 n⟩⟩
  · by_cases z : a = p
    · subst z; rw [upd_same] at e; cases e; exact hp
    · rw [upd_ne z] at e; exact h.le _ _ e
  · have ne : a ≠ p := fun z => np (z ▸ List.mem_of_getElem? e1)
    have c0 := h.cel i a c e1 e2
    cases c with
    | lst ds =>
      obtain ⟨q, vs, e, r⟩ := c0
      exact ⟨by rw [upd_ne ne]; exact q, vs, e, r.mono fo⟩
    | fz ds =>
      obtain ⟨vs, e, r⟩ := c0
      exact ⟨vs, fo _ _ e, r.mono fo⟩
    | dk kvs =>
      obtain ⟨q, vs, e, r⟩ := c0
      exact ⟨by rw [upd_ne ne]; exact q, vs, e, RpKV.mono fo r⟩
/-- .. a cell -/
theorem At.grow (h : At K ad m F H) {p : Addr} {c : Cell} (hc : CellAt K F H p c) (np : p ∉ ad) : At K (ad ++ [p]) (m ++ [c]) F H := by
  refine ⟨h.le, by simp [h.len], ?_, fun j b c' e1 e2 => ?_⟩
  · rw [List.nodup_append]
    refine ⟨h.nd, by simp, fun a ha b hb z => ?_⟩
    have hb' : b = p := by simpa using hb
    subst hb'
    subst z
    exact np ha
  · by_cases hj : j < ad.length
    · rw [List.getElem?_append_left hj] at e1
      rw [List.getElem?_append_left (by rw [← h.len]; exact hj)] at e2
      exact h.cel j b c' e1 e2
    · have hlt : j < (ad ++ [p]).length := (List.getElem?_eq_some_iff.mp e1).1
      have hj2 : j = ad.length := by
        rw [List.length_append, List.length_singleton] at hlt
        omega
      subst hj2
      rw [List.getElem?_append_right (Nat.le_refl _), Nat.sub_self] at e1
      rw [List.getElem?_append_right (by rw [h.len]; exact Nat.le_refl _), h.len, Nat.sub_self] at e2
      cases e1
      cases e2
      exact hc
theorem Ext.grow (x : Ext ad F H ad1 F1 H1) {p : Addr} (hp : H p = none) : Ext ad F H (ad1 ++ [p]) F1 H1 := by
  obtain ⟨t, e⟩ := x.pre
  refine ⟨⟨t ++ [p], by rw [e, List.append_assoc]⟩, x.fle, x.fr, fun a h n => ?_, x.gn⟩
  rcases List.mem_append.mp h with z | z
  · exact x.nw a z n
  · have z' : a = p := by simpa using z
    rw [z']; exact hp
theorem Ext.was (x : Ext ad F H ad1 F1 H1) {p : Addr} (hp : H1 p = none) (np : p ∉ ad1) : H p = none := by
  cases e : H p with
  | none => rfl
  | some u =>
    have n : p ∉ ad := fun z => np (by obtain ⟨t, e⟩ := x.pre; rw [e]; exact List.mem_append_left _ z)
    rw [x.fr _ _ e n] at hp; cases hp
end
/-- a list that is new: its items -/
abbrev Fl := Rho → Sto → Out (List D)
abbrev LF (K : PySem.W.Frag) (Wx : WX) (f : Fl) : TE := fun s H Q =>
  ∃ r ad m F, EnvOk K ad F r s ∧ At K ad m F H ∧ Post K ad F H (f r m) (fun xs _ ad' F' H' => ∀ p vs, H p = none → H' p = some (.lst vs) → F' p = none → p ∉ ad' → RpA K F' vs xs → Q (.ref p) H') (XP K Wx s)
abbrev DF (X : Cx) (Wx : WX) (e : Expr) (f : Fl) : Prop := PE X e (LF X.K Wx f)
/-- as data, as a cell -/
def dData (f : Fl) : Fe := fun r m => (f r m).bind fun xs m1 => .ok (.d (.list xs)) m1
def dCell (f : Fl) : Fe := fun r m => (f r m).bind fun xs m1 => .ok (.c m1.length) (m1 ++ [.lst xs])
def dLst (f : Fa) : Fl := fun r m => (f r m).bind fun ws m1 => match frzs ws m1 with | some (ds, m2) => if ds.length ≤ sizeLine then .ok ds m2 else .bad | none => .bad
section
variable {X : Cx} {Wx : WX} {pos : Pos} {e : Expr} {es : List Expr} {f : Fl} {fs : Fa}
theorem de_data (h : DF X Wx e f) : DE X Wx e (dData f) := by
  refine pe_weak h fun s H Q q => ?_
  obtain ⟨r, ad, m, F, he, hA, hp⟩ := q
  cases e : f r m with
  | bad => rw [show dData f r m = .bad by unfold dData; rw [e]; rfl] at hp; exact hp.elim
  | exc c fs m' =>
    rw [show dData f r m = .exc c fs m' by unfold dData; rw [e]; rfl] at hp
    exact ⟨r, ad, m, F, he, hA, by rw [e]; exact hp⟩
  | ok xs m1 =>
    rw [show dData f r m = .ok (.d (.list xs)) m1 by unfold dData; rw [e]; rfl] at hp
    refine ⟨r, ad, m, F, he, hA, ?_⟩
    rw [e]
    refine fun ad1 F1 H1 e1 a1 p vs h0 hp' fp np rp => ?_
    obtain ⟨a2, x2⟩ := a1.adopt e1 h0 hp' fp np
    exact hp _ _ _ x2 a2 _ (.lst upd_same (rp.mono fun b u q => by rw [upd_ne (ne_of_none q fp)]; exact q))
theorem de_cell (h : DF X Wx e f) : DE X Wx e (dCell f) := by
  refine pe_weak h fun s H Q q => ?_
  obtain ⟨r, ad, m, F, he, hA, hp⟩ := q
  cases e : f r m with
  | bad => rw [show dCell f r m = .bad by unfold dCell; rw [e]; rfl] at hp; exact hp.elim
  | exc c fs m' =>
    rw [show dCell f r m = .exc c fs m' by unfold dCell; rw [e]; rfl] at hp
    exact ⟨r, ad, m, F, he, hA, by rw [e]; exact hp⟩
  | ok xs m1 =>
    rw [show dCell f r m = .ok (.c m1.length) (m1 ++ [.lst xs]) by unfold dCell; rw [e]; rfl] at hp
    refine ⟨r, ad, m, F, he, hA, ?_⟩
    rw [e]
    refine fun ad1 F1 H1 e1 a1 p vs h0 hp' fp np rp => ?_
    have a2 := a1.grow (c := .lst xs) ⟨fp, vs, hp', rp⟩ np
    refine hp _ _ _ (e1.grow h0) a2 _ ⟨p, ?_, rfl⟩
    rw [← a1.len, List.getElem?_append_right (Nat.le_refl _), Nat.sub_self]
    rfl
theorem de_tup {k} (h : DA X Wx es fs) : DE X Wx (.Tuple es k pos) (dTup fs) := by
  refine pe_weak (pe_tup h) fun s H Q q => ?_
  obtain ⟨r, ad, m, F, he, hA, hp⟩ := q
  refine ⟨_, _, _, _, he, hA, Post.mono (Post.bind hp) (fun ws m1 ad1 F1 H1 e1 ha1 q0 vs rw1 => ?_) fun _ _ _ _ _ _ _ _ z => z⟩
  obtain ⟨_, _, h1⟩ := q0
  have he1 := EnvOk.ext e1 he
  cases e : frzs ws m1 with
  | none => rw [e] at h1; exact h1.elim
  | some z =>
    obtain ⟨ds, m2⟩ := z
    rw [e] at h1
    obtain ⟨F2, h2, x2, p2⟩ := frzs_w ha1 rw1 e
    by_cases hz : ds.length ≤ sizeLine
    · simp only [if_pos hz] at h1
      refine ⟨by rw [p2.len]; exact hz, fun p hp' => ?_⟩
      obtain ⟨a3, x3⟩ := h2.new (o := .tup vs) hp'
      exact h1 _ _ _ (x2.trans x3) a3 _ (.tup (SqT.of upd_same) (p2.mono x3.fle))
    · simp only [if_neg hz] at h1
      exact h1.elim
theorem df_lst (h : DA X Wx es fs) : DF X Wx (.List es pos) (dLst fs) := by
  refine pe_weak (pe_lst h) fun s H Q q => ?_
  obtain ⟨r, ad, m, F, he, hA, hp⟩ := q
  refine ⟨r, ad, m, F, he, hA, hp.bind.mono (fun ws m1 ad1 F1 H1 e1 ha1 q vs rw1 => ?_) fun _ _ _ _ _ _ _ _ z => z⟩
  obtain ⟨_, _, h1⟩ := q
  cases e : frzs ws m1 with
  | none => rw [e] at h1; exact h1.elim
  | some z =>
    obtain ⟨ds, m2⟩ := z
    rw [e] at h1
    obtain ⟨F2, h2, x2, p2⟩ := frzs_w ha1 rw1 e
    by_cases hz : ds.length ≤ sizeLine
    · simp only [if_pos hz] at h1
      refine ⟨by rw [p2.len]; exact hz, fun p hp' => ?_⟩
      obtain ⟨a3, x3⟩ := h2.room (o := .lst vs) hp'
      obtain ⟨np, fp⟩ := h2.out hp'
      exact h1 _ _ _ (x2.trans x3) a3 p vs ((e1.trans x2).was hp' np) upd_same fp np p2
    · simp only [if_neg hz] at h1
      exact h1.elim
end
end DL

namespace DL
open PySem L2
/-! ### slices -/
def cutD {α : Type} (xs : List α) (lo hi : Option Int) : List α := (xs.drop (HT.sIx xs.length 0 lo)).take (HT.sIx xs.length xs.length hi - HT.sIx xs.length 0 lo)
theorem cutD_all {α : Type} {xs : List α} {lo hi : Option Int} (h1 : HT.sIx xs.length 0 lo = 0) (h2 : HT.sIx xs.length xs.length hi = xs.length) : cutD xs lo hi = xs := by
  unfold cutD
  rw [h1, h2, List.drop_zero, Nat.sub_zero, List.take_length]
theorem RpA.cut {K : PySem.W.Frag} {F : Hp} {vs : List V} {ds : List D} (r : RpA K F vs ds) (lo hi : Option Int) : RpA K F (cutV vs lo hi) (cutD ds lo hi) := by
  unfold cutV cutD
  rw [r.len]
  exact (r.drop _).take _
def gSl (lo hi : Option Int) : W → Sto → Option W
  | .d (.str x), _ => if x.length ≤ sizeLine then some (.d (.str (cutS x lo hi))) else none
  | .d (.tuple xs), _ => some (.d (.tuple (cutD xs lo hi)))
  | a, m => match lstOf a m with | some xs => some (.d (.list (cutD xs lo hi))) | none => none
def rSl (K : PySem.W.Frag) : V → Option Int → Option Int → Hp → VK → Prop := fun x lo hi H Q => rSlS x lo hi H Q ∨ rSlA K x lo hi H Q ∨ rSlL K x lo hi H Q
theorem sl_all {X : Cx} : SlR X (rSl X.K) := sl_str.or (sl_tupA.or sl_list)
theorem gSl_w {K : PySem.W.Frag} {ad : List Addr} {F H : Hp} {m : Sto} {x z : W} {u : V} {lo hi : Option Int} {Q : VK} (rx : RW K ad F x u) (ha : At K ad m F H) (e : gSl lo hi x m = some z)
    (q : ∀ b F' H', Ext ad F H ad F' H' → At K ad m F' H' → RW K ad F' z b → Q b H') : rSl K u lo hi H Q := by
  unfold gSl at e
  split at e
  · cases rx
    split at e
    · cases e
      exact .inl ⟨_, rfl, by assumption, q _ F H Ext.refl ha (.str _)⟩
    · cases e
  · cases e
    cases rx with
    | tup q1 s1 =>
      refine .inr (.inl ⟨_, _, rfl, ha.le.sqT q1, fun hw => ?_, fun hw p hp => ?_⟩)
      · refine q _ F H Ext.refl ha ?_
        rw [s1.len] at hw
        rw [cutD_all hw.1 hw.2]
        exact .tup q1 s1
      · obtain ⟨a1, x1⟩ := ha.new (o := .tup (cutV _ lo hi)) hp
        exact q _ _ _ x1 a1 (.tup (SqT.of upd_same) ((s1.mono x1.fle).cut lo hi))
  · split at e
    · rename_i xs hl
      cases e
      obtain ⟨a, vs, rfl, q1, s1⟩ := ha.lst rx hl
      refine .inr (.inr ⟨_, _, rfl, q1, fun p hp => ?_⟩)
      obtain ⟨a1, x1⟩ := ha.new (o := .lst (cutV vs lo hi)) hp
      exact q _ _ _ x1 a1 (.lst upd_same ((s1.mono x1.fle).cut lo hi))
    · cases e
abbrev Fo := Rho → Sto → Out (Option Int)
abbrev DO (X : Cx) (Wx : WX) (e : Option Expr) (f : Fo) : Prop := PO X e (LO X.K Wx f)
theorem po_weak {X : Cx} {e : Option Expr} {t t' : TO} (h : PO X e t) (w : ∀ s H Q, t' s H Q → t s H Q) : PO X e t' := ⟨fun p s σ H Q I q => h.run p s σ H Q I (w _ _ _ q)⟩
def oNone : Fo := fun _ m => .ok none m
def oSome (f : Fe) : Fo := fun r m => (f r m).bind fun w m1 => match w with | .d (.int i) => .ok (some i) m1 | _ => .bad
def dSl (f : Fe) (l h : Fo) : Fe := fun r m => (f r m).bind fun w m1 => (l r m1).bind fun lo m2 => (h r m2).bind fun hi m3 => .opt (gSl lo hi w m3) m3
section
variable {X : Cx} {Wx : WX} {pos p2 : Pos} {e : Expr} {lo hi : Option Expr} {f : Fe} {fl fh : Fo}
theorem do_none : DO X Wx none oNone := po_weak po_none fun s H Q q => by
  obtain ⟨r, ad, m, F, he, hA, hp⟩ := q
  exact hp _ _ _ Ext.refl hA _ rfl
theorem do_some (h : DE X Wx e f) : DO X Wx (some e) (oSome f) := po_weak (po_some h) fun s H Q q => by
  obtain ⟨r, ad, m, F, he, hA, hp⟩ := q
  refine ⟨_, _, _, _, he, hA, Post.mono (Post.bind hp) (fun w m1 ad1 F1 H1 e1 ha1 q0 v rw1 => ?_) fun _ _ _ _ _ _ _ _ z => z⟩
  obtain ⟨_, _, h1⟩ := q0
  split at h1
  · cases rw1
    exact ⟨_, rfl, h1 _ _ _ Ext.refl ha1 _ rfl⟩
  · exact h1.elim
theorem de_sl (h : DE X Wx e f) (hl : DO X Wx lo fl) (hh : DO X Wx hi fh) : DE X Wx (.Subscript e (.Slice lo hi none p2) pos) (dSl f fl fh) := by
  refine pe_weak (pe_slice sl_all h hl hh) fun s H Q q => ?_
  obtain ⟨r, ad, m, F, he, hA, hp⟩ := q
  refine ⟨_, _, _, _, he, hA, Post.mono (Post.bind hp) (fun w m1 ad1 F1 H1 e1 ha1 q0 v rw1 => ?_) fun _ _ _ _ _ _ _ _ z => z⟩
  obtain ⟨_, _, h1⟩ := q0
  have he1 := EnvOk.ext e1 he
  refine ⟨_, _, _, _, he1, ha1, Post.mono (Post.bind h1) (fun l m2 ad2 F2 H2 e2 ha2 q0 v2 rw2 => ?_) fun _ _ _ _ _ _ _ _ z => z⟩
  obtain ⟨_, _, h2⟩ := q0
  have he2 := EnvOk.ext e2 he1
  subst rw2
  refine ⟨_, _, _, _, he2, ha2, Post.mono (Post.bind h2) (fun u m3 ad3 F3 H3 e3 ha3 q0 v3 rw3 => ?_) fun _ _ _ _ _ _ _ _ z => z⟩
  obtain ⟨_, _, h3⟩ := q0
  subst rw3
  cases e : gSl l u w m3 with
  | none => rw [e] at h3; exact h3.elim
  | some z =>
    rw [e] at h3
    exact gSl_w ((rw1.ext e2).ext e3) ha3 e fun b F' H' x1 x2 x3 => h3 _ _ _ x1 x2 b x3
end

/-! ### built-in functions -/
def CallD (K : PySem.W.Frag) (r : List V → Hp → VK → Prop) (g : List W → Sto → Option W) : Prop := ∀ (ws : List W) (z : W) (vs : List V) (ad : List Addr) (m : Sto) (F H : Hp) (Q : VK),
  RWs K ad F ws vs → At K ad m F H → g ws m = some z → (∀ b F' H', Ext ad F H ad F' H' → At K ad m F' H' → RW K ad F' z b → Q b H') → r vs H Q
def CallF (K : PySem.W.Frag) (r : List V → Hp → VK → Prop) (g : List W → Sto → Option (List D)) : Prop := ∀ (ws : List W) (zs : List D) (vs : List V) (ad : List Addr) (m : Sto) (F H : Hp) (Q : VK),
  RWs K ad F ws vs → At K ad m F H → g ws m = some zs → (∀ p us, H p = none → RpA K F us zs → Q (.ref p) (upd H p (.lst us))) → r vs H Q
def dCB (g : List W → Sto → Option W) (fs : Fa) : Fe := fun r m => (fs r m).bind fun ws m1 => .opt (g ws m1) m1
def dCF (g : List W → Sto → Option (List D)) (fs : Fa) : Fl := fun r m => (fs r m).bind fun ws m1 => .opt (g ws m1) m1
section
variable {K : PySem.W.Frag} {Wx : WX}
theorem call_w {r : List V → Hp → VK → Prop} {g : List W → Sto → Option W} {fs : Fa} (hg : CallD K r g) {s : St} {H : Hp} {Q : VK} (h : LE K Wx (dCB g fs) s H Q) : LA K Wx fs s H fun vs H1 => r vs H1 Q := by
  obtain ⟨r, ad, m, F, he, hA, hp⟩ := h
  refine ⟨_, _, _, _, he, hA, Post.mono (Post.bind hp) (fun w m1 ad1 F1 H1 e1 ha1 q0 v rw1 => ?_) fun _ _ _ _ _ _ _ _ z => z⟩
  obtain ⟨_, _, h1⟩ := q0
  cases e : g w m1 with
  | none => rw [e] at h1; exact h1.elim
  | some z =>
    rw [e] at h1
    exact hg _ _ _ _ _ _ _ _ rw1 ha1 e fun b F' H' x1 x2 x3 => h1 _ _ _ x1 x2 b x3
theorem callF_w {r : List V → Hp → VK → Prop} {g : List W → Sto → Option (List D)} {fs : Fa} (hg : CallF K r g) {s : St} {H : Hp} {Q : VK} (h : LF K Wx (dCF g fs) s H Q) : LA K Wx fs s H fun vs H1 => r vs H1 Q := by
  obtain ⟨r, ad, m, F, he, hA, hp⟩ := h
  refine ⟨_, _, _, _, he, hA, Post.mono (Post.bind hp) (fun w m1 ad1 F1 H1 e1 ha1 q0 v rw1 => ?_) fun _ _ _ _ _ _ _ _ z => z⟩
  obtain ⟨_, _, h1⟩ := q0
  cases e : g w m1 with
  | none => rw [e] at h1; exact h1.elim
  | some z =>
    rw [e] at h1
    refine hg _ _ _ _ _ _ _ _ rw1 ha1 e fun p us x1 x2 => ?_
    obtain ⟨a3, x3⟩ := ha1.room (o := .lst us) x1
    obtain ⟨np, fp⟩ := ha1.out x1
    exact h1 _ _ _ x3 a3 p us (e1.was x1 np) upd_same fp np x2
end
section
variable {X : Cx} {Wx : WX} {pos p : Pos} {x : Str} {e : Expr} {es : List Expr} {id T : String} {r : List V → Hp → VK → Prop} {fs : Fa}
theorem de_cB {g : List W → Sto → Option W} (hg : CallD X.K r g) (hp : PE X e (tCB r (LA X.K Wx fs))) : DE X Wx e (dCB g fs) := pe_weak hp fun s H Q q => call_w hg q
theorem df_cB {g : List W → Sto → Option (List D)} (hg : CallF X.K r g) (hp : PE X e (tCB r (LA X.K Wx fs))) : DF X Wx e (dCF g fs) := pe_weak hp fun s H Q q => callF_w hg q
end
section
variable {K : PySem.W.Frag}
theorem RWs.one {ad : List Addr} {F : Hp} {w : W} {vs : List V} (r : RWs K ad F [w] vs) : ∃ v, vs = [v] ∧ RW K ad F w v := by
  cases r with
  | cons a b => cases b; exact ⟨_, rfl, a⟩
theorem RWs.two {ad : List Addr} {F : Hp} {w y : W} {vs : List V} (r : RWs K ad F [w, y] vs) : ∃ v u, vs = [v, u] ∧ RW K ad F w v ∧ RW K ad F y u := by
  cases r with
  | cons a b =>
    cases b with
    | cons a' b' => cases b'; exact ⟨_, _, rfl, a, a'⟩
def gLen : List W → Sto → Option W
  | [.d (.str x)], _ => if x.length ≤ sizeLine then some (.d (.int x.length)) else none
  | [.d (.tuple xs)], _ => some (.d (.int xs.length))
  | [a], m => match lstOf a m with | some xs => some (.d (.int xs.length)) | none => none
  | _, _ => none
theorem cd_len : CallD K (fun xs H Q => ∃ x n, xs = [x] ∧ LenV K x H n ∧ Q (.int n) H) gLen := by
  intro ws z vs ad m F H Q r ha e q
  unfold gLen at e
  split at e
  · obtain ⟨v, rfl, r1⟩ := r.one
    cases r1
    split at e
    · cases e
      exact ⟨_, _, rfl, ⟨by assumption, rfl⟩, q _ F H Ext.refl ha (.int _)⟩
    · cases e
  · obtain ⟨v, rfl, r1⟩ := r.one
    cases e
    cases r1 with
    | tup q1 s1 => exact ⟨_, _, rfl, .inr ⟨_, ha.le.sqT q1, rfl⟩, by rw [s1.len]; exact q _ F H Ext.refl ha (.int _)⟩
  · obtain ⟨v, rfl, r1⟩ := r.one
    split at e
    · rename_i xs hl
      cases e
      obtain ⟨a, vs, rfl, q1, s1⟩ := ha.lst r1 hl
      exact ⟨_, _, rfl, .inl ⟨_, q1, rfl⟩, by rw [s1.len]; exact q _ F H Ext.refl ha (.int _)⟩
    · cases e
  · cases e
def gAbs : List W → Sto → Option W
  | [.d (.int i)], _ => some (.d (.int (if i < 0 then -i else i)))
  | _, _ => none
theorem cd_abs : CallD K (fun xs H Q => ∃ i, xs = [.int i] ∧ Q (.int (if i < 0 then -i else i)) H) gAbs := by
  intro ws z vs ad m F H Q r ha e q
  unfold gAbs at e
  split at e
  · obtain ⟨v, rfl, r1⟩ := r.one
    cases e; cases r1
    exact ⟨_, rfl, q _ F H Ext.refl ha (.int _)⟩
  · cases e
def gStr : List W → Sto → Option W
  | [.d (.int i)], _ => if i.natAbs.log2 < 1920 then some (.d (.str (toString i))) else none
  | _, _ => none
theorem cd_str : CallD K (fun xs H Q => ∃ i, xs = [.int i] ∧ i.natAbs.log2 < 1920 ∧ Q (.str (toString i)) H) gStr := by
  intro ws z vs ad m F H Q r ha e q
  unfold gStr at e
  split at e
  · obtain ⟨v, rfl, r1⟩ := r.one
    split at e
    · cases e; cases r1
      exact ⟨_, rfl, by assumption, q _ F H Ext.refl ha (.str _)⟩
    · cases e
  · cases e
def gInt : List W → Sto → Option W
  | [.d (.int i)], _ => some (.d (.int i))
  | [.d (.bool b)], _ => some (.d (.int (if b then 1 else 0)))
  | _, _ => none
theorem cd_int : CallD K (fun xs H Q => (∃ i, xs = [.int i] ∧ Q (.int i) H) ∨ ∃ k, xs = [.bl k] ∧ Q (.int (if k then 1 else 0)) H) gInt := by
  intro ws z vs ad m F H Q r ha e q
  unfold gInt at e
  split at e
  · obtain ⟨v, rfl, r1⟩ := r.one
    cases e; cases r1
    exact .inl ⟨_, rfl, q _ F H Ext.refl ha (.int _)⟩
  · obtain ⟨v, rfl, r1⟩ := r.one
    cases e; cases r1
    exact .inr ⟨_, rfl, q _ F H Ext.refl ha (.int _)⟩
  · cases e
def gTuple : List W → Sto → Option W
  | [.d (.tuple xs)], _ => some (.d (.tuple xs))
  | [a], m => match lstOf a m with | some xs => some (.d (.tuple xs)) | none => none
  | _, _ => none
theorem cd_tuple : CallD K (fun xs H Q => ∃ p ys, xs = [.ref p] ∧ ((SqL K H p ys ∧ ∀ l, H l = none → Q (.ref l) (upd H l (.tup ys))) ∨ (SqT K H p ys ∧ Q (.ref p) H))) gTuple := by
  intro ws z vs ad m F H Q r ha e q
  unfold gTuple at e
  split at e
  · obtain ⟨v, rfl, r1⟩ := r.one
    cases e
    cases r1 with
    | tup q1 s1 => exact ⟨_, _, rfl, .inr ⟨ha.le.sqT q1, q _ F H Ext.refl ha (.tup q1 s1)⟩⟩
  · obtain ⟨v, rfl, r1⟩ := r.one
    split at e
    · rename_i xs hl
      cases e
      obtain ⟨a, vs, rfl, q1, s1⟩ := ha.lst r1 hl
      refine ⟨_, _, rfl, .inl ⟨q1, fun p hp => ?_⟩⟩
      obtain ⟨a1, x1⟩ := ha.new (o := .tup vs) hp
      exact q _ _ _ x1 a1 (.tup (SqT.of upd_same) (s1.mono x1.fle))
    · cases e
  · cases e
/-- the items of a list or a tuple -/
def seqOf : W → Sto → Option (List D)
  | .d (.tuple xs), _ => some xs
  | a, m => lstOf a m
theorem At.seq {ad : List Addr} {m : Sto} {F H : Hp} {w : W} {v : V} (h : At K ad m F H) (r : RW K ad F w v) {xs : List D} (e : seqOf w m = some xs) : ∃ a vs, v = .ref a ∧ (SqL K H a vs ∨ SqT K H a vs) ∧ RpA K F vs xs := by
  unfold seqOf at e
  split at e
  · cases e
    cases r with
    | tup q1 s1 => exact ⟨_, _, rfl, .inr (h.le.sqT q1), s1⟩
  · obtain ⟨a, vs, e1, e2, e3⟩ := h.lst r e
    exact ⟨a, vs, e1, .inl e2, e3⟩
def gList : List W → Sto → Option (List D)
  | [a], m => seqOf a m
  | _, _ => none
theorem cf_list : CallF K (fun xs H Q => ∃ p ys, xs = [.ref p] ∧ (SqL K H p ys ∨ SqT K H p ys) ∧ ∀ l, H l = none → Q (.ref l) (upd H l (.lst ys))) gList := by
  intro ws z vs ad m F H Q r ha e q
  unfold gList at e
  split at e
  · obtain ⟨v, rfl, r1⟩ := r.one
    obtain ⟨a, vs, rfl, q1, s1⟩ := ha.seq r1 e
    exact ⟨_, _, rfl, q1, fun p hp => q p vs hp s1⟩
  · cases e
def allB : List D → Option (List Bool)
  | [] => some []
  | .bool b :: r => (allB r).map (b :: ·)
  | _ :: _ => none
theorem allB_w {F : Hp} : ∀ {vs : List V} {ds : List D} {bs : List Bool}, RpA K F vs ds → allB ds = some bs → vs = bs.map V.bl
  | _, _, bs, .nil, e => by cases e; rfl
  | _, _, bs, .cons (d := d) a r, e => by
    cases d with
    | bool b =>
      cases a
      obtain ⟨cs, h1, rfl⟩ := Option.map_eq_some_iff.mp e
      rw [allB_w r h1]
      rfl
    | _ => cases e
def gAll : List W → Sto → Option W
  | [a], m => match lstOf a m with | some xs => (allB xs).map fun bs => .d (.bool (bs.all id)) | none => none
  | _, _ => none
def gAny : List W → Sto → Option W
  | [a], m => match lstOf a m with | some xs => (allB xs).map fun bs => .d (.bool (bs.any id)) | none => none
  | _, _ => none
theorem cd_all : CallD K (rAll K) gAll := by
  intro ws z vs ad m F H Q r ha e q
  unfold gAll at e
  split at e
  · obtain ⟨v, rfl, r1⟩ := r.one
    split at e
    · rename_i xs hl
      obtain ⟨bs, h1, rfl⟩ := Option.map_eq_some_iff.mp e
      obtain ⟨a, vs, rfl, q1, s1⟩ := ha.lst r1 hl
      exact ⟨_, bs, rfl, allB_w s1 h1 ▸ q1, q _ F H Ext.refl ha (.bl _)⟩
    · cases e
  · cases e
theorem cd_any : CallD K (rAny K) gAny := by
  intro ws z vs ad m F H Q r ha e q
  unfold gAny at e
  split at e
  · obtain ⟨v, rfl, r1⟩ := r.one
    split at e
    · rename_i xs hl
      obtain ⟨bs, h1, rfl⟩ := Option.map_eq_some_iff.mp e
      obtain ⟨a, vs, rfl, q1, s1⟩ := ha.lst r1 hl
      exact ⟨_, bs, rfl, allB_w s1 h1 ▸ q1, q _ F H Ext.refl ha (.bl _)⟩
    · cases e
  · cases e
end

/-! ### isinstance -/
def tyN : D → String
  | .none => "NoneType"
  | .bool _ => "bool"
  | .int _ => "int"
  | .str _ => "str"
  | .list _ => "list"
  | .tuple _ => "tuple"
  | .dict _ => "dict"
def isT (T : String) (x : D) : Bool := kitB (tyN x) T == some true
def dIsi (T : String) (f : Fe) : Fe := fun r m => (f r m).bind fun w m1 => match datOf w m1 with | some x => .ok (.d (.bool (isT T x))) m1 | none => .bad
def kits (T : String) : Bool := ["NoneType", "bool", "int", "str", "list", "tuple", "dict"].all fun n => (kitB n T).isSome
theorem kits_at {T : String} (h : kits T = true) (x : D) : kitB (tyN x) T = some (isT T x) := by
  have h1 : (kitB (tyN x) T).isSome = true := by
    have := List.all_eq_true.mp h
    cases x <;> exact this _ (by simp [tyN])
  unfold isT
  cases e : kitB (tyN x) T with
  | none => rw [e] at h1; cases h1
  | some b => cases b <;> rfl
theorem dp_ty {K : PySem.W.Frag} {ad : List Addr} {m : Sto} {F H : Hp} {w : W} {v : V} (h : At K ad m F H) (r : RW K ad F w v) {x : D} (e : datOf w m = some x) : TyX K H v (.type (tyN x)) := by
  unfold datOf at e
  split at e
  · cases e
    cases r with
    | non => exact .base .non
    | bl b => exact .base (.bl b)
    | int i => exact .base (.int i)
    | str i => exact .base (.str i)
    | lst q s => exact .base (.lst (h.le _ _ q))
    | tup q s =>
      rcases q with (q | ⟨o, q⟩) | ⟨o, its, n, q, c, _⟩
      · exact .base (.tup (h.le _ _ q))
      · exact .fTuple (h.le _ _ q)
      · exact .kTuple q c
  · obtain ⟨a, ha, rfl⟩ := r
    split at e
    · cases e
      obtain ⟨_, vs, e1, s⟩ := h.cel _ _ _ ha (by assumption)
      exact .base (.lst e1)
    · cases e
      obtain ⟨vs, e1, s⟩ := h.cel _ _ _ ha (by assumption)
      exact .base (.lst (h.le _ _ e1))
    · cases e
  · cases e
theorem de_isi {X : Cx} {Wx : WX} {pos p p2 : Pos} {e : Expr} {T : Str} {Tn : String} {f : Fe} (hk : kits Tn = true) (he : DE X Wx e f) (ht : PE X (.Name T p2) (tC (.ty Tn)))
    (hc : PA X [e, .Name T p2] (tCons (LE X.K Wx f) (tCons (tC (.ty Tn)) tNil)) → PE X (.Call (.Name "isinstance" p) [e, .Name T p2] [] pos) (tCB (rIsi X.K) (tCons (LE X.K Wx f) (tCons (tC (.ty Tn)) tNil))))
    (hs : starEach (e :: [.Name T p2]) X.env = (false, eval e X.env) :: starEach [.Name T p2] X.env := by rfl) (hs2 : starEach (.Name T p2 :: []) X.env = (false, eval (.Name T p2) X.env) :: starEach [] X.env := by rfl) :
    DE X Wx (.Call (.Name "isinstance" p) [e, .Name T p2] [] pos) (dIsi Tn f) := by
  refine pe_weak (hc (pa_cons he (pa_cons ht pa_nil hs2) hs)) fun s H Q q => ?_
  obtain ⟨r, ad, m, F, he, hA, hp⟩ := q
  refine ⟨_, _, _, _, he, hA, Post.mono (Post.bind hp) (fun w m1 ad1 F1 H1 e1 ha1 q0 v rw1 => ?_) fun _ _ _ _ _ _ _ _ z => z⟩
  obtain ⟨_, _, h1⟩ := q0
  cases e : datOf w m1 with
  | none => rw [e] at h1; exact h1.elim
  | some x =>
    rw [e] at h1
    exact ⟨_, _, _, _, _, rfl, .ty _, dp_ty ha1 rw1 e, kit_ty (kits_at hk x), h1 _ _ _ Ext.refl ha1 _ (.bl _)⟩
theorem kits_int : kits "int" = true := by decide +kernel
theorem kits_bool : kits "bool" = true := by decide +kernel
theorem kits_str : kits "str" = true := by decide +kernel
theorem kits_tuple : kits "tuple" = true := by decide +kernel
theorem kits_list : kits "list" = true := by decide +kernel
theorem kits_dict : kits "dict" = true := by decide +kernel
end DL

namespace DL
open PySem L2
abbrev Fs := Rho → Sto → OutS
def PostS (K : PySem.W.Frag) (Wx : WX) (Dn : Ends) (ad : List Addr) (F H : Hp) : OutS → Prop
  | .nx r m => ∀ s ad' F' H', Ext ad F H ad' F' H' → At K ad' m F' H' → EnvOk K ad' F' r s → Dn.nx s H'
  | .ret w m => ∀ v ad' F' H', Ext ad F H ad' F' H' → At K ad' m F' H' → RW K ad' F' w v → Dn.rt v H'
  | .brk r m => ∀ s ad' F' H', Ext ad F H ad' F' H' → At K ad' m F' H' → EnvOk K ad' F' r s → Dn.bk s H'
  | .cnt r m => ∀ s ad' F' H', Ext ad F H ad' F' H' → At K ad' m F' H' → EnvOk K ad' F' r s → Dn.ct s H'
  | .exc c fs r m => ∀ s d ad' F' H', Ext ad F H ad' F' H' → At K ad' m F' H' → EnvOk K ad' F' r s → XR K F' H' d fs → Wx c d s H'
  | .bad => False
theorem PostS.ext {K : PySem.W.Frag} {Wx : WX} {Dn : Ends} {ad ad1 : List Addr} {F F1 H H1 : Hp} {o : OutS} (h : PostS K Wx Dn ad F H o) (e : Ext ad F H ad1 F1 H1) : PostS K Wx Dn ad1 F1 H1 o := by
  cases o with
  | nx r m => exact fun _ _ _ _ x => h _ _ _ _ (e.trans x)
  | ret w m => exact fun _ _ _ _ x => h _ _ _ _ (e.trans x)
  | brk r m => exact fun _ _ _ _ x => h _ _ _ _ (e.trans x)
  | cnt r m => exact fun _ _ _ _ x => h _ _ _ _ (e.trans x)
  | exc c fs r m => exact fun _ _ _ _ _ x => h _ _ _ _ _ (e.trans x)
  | bad => exact h
def LS (K : PySem.W.Frag) (Wx : WX) (f : Fs) : TS := fun Dn s H => ∃ r ad m F, EnvOk K ad F r s ∧ At K ad m F H ∧ PostS K Wx Dn ad F H (f r m)
abbrev DS (X : Cx) (Wx : WX) (st : Stmt) (f : Fs) : Prop := PS X st (LS X.K Wx f)
abbrev DSs (X : Cx) (Wx : WX) (st : List Stmt) (f : Fs) : Prop := PSs X st (LS X.K Wx f)
theorem ps_weak {X : Cx} {e : Stmt} {t t' : TS} (h : PS X e t) (w : ∀ D s H, t' D s H → t D s H) : PS X e t' := ⟨fun p s σ H D I q => h.run p s σ H D I (w _ _ _ q)⟩
theorem pss_weak {X : Cx} {e : List Stmt} {t t' : TS} (h : PSs X e t) (w : ∀ D s H, t' D s H → t D s H) : PSs X e t' := ⟨fun p s σ H D I q => h.run p s σ H D I (w _ _ _ q)⟩
/-- an expression's outcome goes into a statement's -/
def Out.stm {α : Type} (o : Out α) (r : Rho) (g : α → Sto → OutS) : OutS := match o with
  | .ok a m => g a m
  | .exc c fs m => .exc c fs r m
  | .bad => .bad
@[simp] theorem Out.stm_ok {α : Type} (a : α) (m : Sto) (r : Rho) (g : α → Sto → OutS) : (Out.ok a m).stm r g = g a m := rfl
@[simp] theorem Out.stm_exc {α : Type} (c : Value) (fs : List (Str × D)) (m : Sto) (r : Rho) (g : α → Sto → OutS) : (Out.exc c fs m : Out α).stm r g = .exc c fs r m := rfl
@[simp] theorem Out.stm_bad {α : Type} (r : Rho) (g : α → Sto → OutS) : (Out.bad : Out α).stm r g = .bad := rfl
theorem stm_post {α : Type} {K : PySem.W.Frag} {Wx : WX} {Dn : Ends} {ad : List Addr} {F H : Hp} {o : Out α} {r : Rho} {s : St} {g : α → Sto → OutS} (he : EnvOk K ad F r s) (h : PostS K Wx Dn ad F H (o.stm r g)) :
    Post K ad F H o (fun a m ad' F' H' => Ext ad F H ad' F' H' ∧ At K ad' m F' H' ∧ PostS K Wx Dn ad' F' H' (g a m)) (XP K Wx s) := by
  cases o with
  | ok a m => exact fun _ _ _ e' h' => ⟨e', h', PostS.ext (o := g a m) h e'⟩
  | exc c fs m => exact fun _ _ _ e' h' d x => h _ _ _ _ _ e' h' (he.ext e') x
  | bad => exact h
def sNx : Fs := fun r m => .nx r m
def sSeq (f g : Fs) : Fs := fun r m => match f r m with
  | .nx r1 m1 => g r1 m1
  | o => o
def sDrop (f : Fe) : Fs := fun r m => (f r m).stm r fun _ m1 => .nx r m1
def sRet (f : Fe) : Fs := fun r m => (f r m).stm r fun w m1 => .ret w m1
def sRetN : Fs := fun _ m => .ret (.d .none) m
def sIf (t : Ft) (f g : Fs) : Fs := fun r m => (t r m).stm r fun b m1 => if b then f r m1 else g r m1
def sBrk : Fs := fun r m => .brk r m
def sCnt : Fs := fun r m => .cnt r m
section
variable {X : Cx} {Wx : WX} {pos : Pos} {st : Stmt} {rest : List Stmt} {e : Expr} {f g : Fs} {fe : Fe}
theorem dss_nil : DSs X Wx [] sNx := pss_weak pss_nil fun D s H q => by
  obtain ⟨r, ad, m, F, he, hA, hp⟩ := q
  exact hp _ _ _ _ Ext.refl hA he
theorem dss_cons (h : DS X Wx st f) (hs : DSs X Wx rest g) : DSs X Wx (st :: rest) (sSeq f g) := pss_weak (pss_cons h hs) fun D s H q => by
  obtain ⟨r, ad, m, F, he, hA, hp⟩ := q
  refine ⟨r, ad, m, F, he, hA, ?_⟩
  unfold sSeq at hp
  cases e : f r m with
  | nx r1 m1 =>
    rw [e] at hp
    exact fun s1 ad1 F1 H1 x1 x2 x3 => ⟨r1, ad1, m1, F1, x3, x2, hp.ext x1⟩
  | ret w m1 => rw [e] at hp; exact hp
  | brk r m1 => rw [e] at hp; exact hp
  | cnt r m1 => rw [e] at hp; exact hp
  | exc c fs r m1 => rw [e] at hp; exact hp
  | bad => rw [e] at hp; exact hp
theorem dss_one (h : DS X Wx st f) : DSs X Wx [st] f := pss_weak (pss_one h) fun _ _ _ q => q
theorem ds_pass : DS X Wx (.Pass pos) sNx := ps_weak ps_pass fun D s H q => by
  obtain ⟨r, ad, m, F, he, hA, hp⟩ := q
  exact hp _ _ _ _ Ext.refl hA he
theorem ds_doc {x j pos'} : DS X Wx (.Expr (.Constant (.str x) j pos) pos') sNx := ps_weak ps_doc fun D s H q => by
  obtain ⟨r, ad, m, F, he, hA, hp⟩ := q
  exact hp _ _ _ _ Ext.refl hA he
theorem ds_break : DS X Wx (.Break pos) sBrk := ps_weak ps_break fun D s H q => by
  obtain ⟨r, ad, m, F, he, hA, hp⟩ := q
  exact hp _ _ _ _ Ext.refl hA he
theorem ds_continue : DS X Wx (.Continue pos) sCnt := ps_weak ps_continue fun D s H q => by
  obtain ⟨r, ad, m, F, he, hA, hp⟩ := q
  exact hp _ _ _ _ Ext.refl hA he
theorem ds_expr (h : DE X Wx e fe) (hs : swapsWith e none pos.line X.env = pure false := by rfl) : DS X Wx (.Expr e pos) (sDrop fe) := ps_weak (ps_expr h hs) fun D s H q => by
  obtain ⟨r, ad, m, F, he, hA, hp⟩ := q
  refine ⟨r, ad, m, F, he, hA, Post.mono (stm_post he hp) (fun w m1 ad1 F1 H1 e1 ha1 q0 v rw1 => ?_) fun _ _ _ _ _ _ _ _ z => z⟩
  exact q0.2.2 _ _ _ _ Ext.refl ha1 (he.ext e1)
theorem ds_ret (h : DE X Wx e fe) : DS X Wx (.Return (some e) pos) (sRet fe) := ps_weak (ps_ret h) fun D s H q => by
  obtain ⟨r, ad, m, F, he, hA, hp⟩ := q
  refine ⟨r, ad, m, F, he, hA, Post.mono (stm_post he hp) (fun w m1 ad1 F1 H1 e1 ha1 q0 v rw1 => ?_) fun _ _ _ _ _ _ _ _ z => z⟩
  exact q0.2.2 _ _ _ _ Ext.refl ha1 rw1
theorem ds_retN : DS X Wx (.Return none pos) sRetN := ps_weak ps_retN fun D s H q => by
  obtain ⟨r, ad, m, F, he, hA, hp⟩ := q
  exact hp _ _ _ _ Ext.refl hA (Rp.non)
theorem ds_if {c : Expr} {a b : List Stmt} {t : Ft} (hc : DT X Wx c t) (ha : DSs X Wx a f) (hb : DSs X Wx b g) : DS X Wx (.If c a b pos) (sIf t f g) := ps_weak (ps_if hc ha hb) fun D s H q => by
  obtain ⟨r, ad, m, F, he, hA, hp⟩ := q
  refine ⟨r, ad, m, F, he, hA, Post.mono (stm_post he hp) (fun w m1 ad1 F1 H1 e1 ha1 q0 v rw1 => ?_) fun _ _ _ _ _ _ _ _ z => z⟩
  subst rw1
  have h1 := q0.2.2
  cases w with
  | true => exact iteT ⟨r, ad1, m1, F1, he.ext e1, ha1, h1⟩
  | false => exact iteF ⟨r, ad1, m1, F1, he.ext e1, ha1, h1⟩
end

/-! ### targets -/
abbrev Fg := W → Rho → Sto → Option (Rho × Sto)
/-- sl: the slots that may be set -/
def LG (K : PySem.W.Frag) (sl : List Nat) (g : Fg) : TG := fun v s H q =>
  ∃ w r ad m F, RW K ad F w v ∧ EnvOk K ad F r s ∧ At K ad m F H ∧ match g w r m with
    | some (r1, m1) => ∀ s' ad' F' H', Ext ad F H ad' F' H' → At K ad' m1 F' H' → EnvOk K ad' F' r1 s' → s'.length = s.length → (∀ j, j ∉ sl → s'[j]? = s[j]?) → q s' H'
    | none => False
def LGs (K : PySem.W.Frag) (sl : List Nat) (g : List W → Rho → Sto → Option (Rho × Sto)) : TGs := fun v s H q =>
  ∃ w r ad m F, RWs K ad F w v ∧ EnvOk K ad F r s ∧ At K ad m F H ∧ match g w r m with
    | some (r1, m1) => ∀ s' ad' F' H', Ext ad F H ad' F' H' → At K ad' m1 F' H' → EnvOk K ad' F' r1 s' → s'.length = s.length → (∀ j, j ∉ sl → s'[j]? = s[j]?) → q s' H'
    | none => False
abbrev DG (X : Cx) (sl : List Nat) (e : Expr) (g : Fg) : Prop := PG X e (LG X.K sl g)
abbrev DGs (X : Cx) (sl : List Nat) (e : List Expr) (g : List W → Rho → Sto → Option (Rho × Sto)) : Prop := PGs X e (LGs X.K sl g)
theorem pg_weak {X : Cx} {e : Expr} {t t' : TG} (h : PG X e t) (w : ∀ v s H q, t' v s H q → t v s H q) : PG X e t' := ⟨fun p s σ H v u Q I r q => h.run p s σ H v u Q I r (w _ _ _ _ q)⟩
theorem pgs_weak {X : Cx} {e : List Expr} {t t' : TGs} (h : PGs X e t) (w : ∀ v s H q, t' v s H q → t v s H q) : PGs X e t' := ⟨fun p s σ H v u Q I r q => h.run p s σ H v u Q I r (w _ _ _ _ q)⟩
def gN (i : Nat) : Fg := fun w r m => some (r.set i (some w), m)
def gsNil : List W → Rho → Sto → Option (Rho × Sto) := fun ws r m => match ws with | [] => some (r, m) | _ => none
def gsCons (g : Fg) (gs : List W → Rho → Sto → Option (Rho × Sto)) : List W → Rho → Sto → Option (Rho × Sto) := fun ws r m => match ws with
  | w :: r1 => match g w r m with | some (r2, m2) => gs r1 r2 m2 | none => none
  | [] => none
/-- (a, b, ..) = a tuple of n -/
def gT (n : Nat) (gs : List W → Rho → Sto → Option (Rho × Sto)) : Fg := fun w r m => match w with
  | .d (.tuple ds) => if ds.length = n then gs (ds.map .d) r m else none
  | _ => none
theorem rws_of {K : PySem.W.Frag} {ad : List Addr} {F : Hp} : ∀ {vs : List V} {ds : List D}, RpA K F vs ds → RWs K ad F (ds.map .d) vs
  | _, _, .nil => .nil
  | _, _, .cons a r => .cons a (rws_of r)
section
variable {X : Cx} {pos : Pos} {e : Expr} {es : List Expr} {sl sl' : List Nat}
theorem dg_name {i : Nat} {x : Str} (h : PG X (.Name x pos) (gName i)) : DG X [i] (.Name x pos) (gN i) := pg_weak h fun v s H q z => by
  obtain ⟨w, r, ad, m, F, h1, h2, h3, h4⟩ := z
  refine h4 _ ad F H Ext.refl h3 (h2.set i h1) (by simp) fun j hj => ?_
  rw [List.getElem?_set_ne]
  intro z
  exact hj (by simp [z])
theorem dgs_nil : DGs X [] [] gsNil := pgs_weak pgs_nil fun v s H q z => by
  obtain ⟨w, r, ad, m, F, h1, h2, h3, h4⟩ := z
  cases h1 with
  | nil => exact ⟨rfl, h4 _ ad F H Ext.refl h3 h2 rfl fun _ _ => rfl⟩
  | cons a b => exact h4.elim
theorem dgs_cons {g : Fg} {gs : List W → Rho → Sto → Option (Rho × Sto)} (h : DG X sl e g) (h2 : DGs X sl' es gs) (hs : (assignEach (e :: es) X.env).map (·.2) = assign e X.env :: (assignEach es X.env).map (·.2) := by rfl) :
    DGs X (sl ++ sl') (e :: es) (gsCons g gs) := pgs_weak (pgs_cons h h2 hs) fun v s H q z => by
  obtain ⟨w, r, ad, m, F, h1, h2, h3, h4⟩ := z
  cases h1 with
  | nil => exact h4.elim
  | cons a b =>
    rename_i x y xs ys
    refine ⟨_, _, rfl, x, r, ad, m, F, a, h2, h3, ?_⟩
    unfold gsCons at h4
    dsimp only at h4
    cases e : g x r m with
    | none => rw [e] at h4; exact h4.elim
    | some p =>
      obtain ⟨r2, m2⟩ := p
      rw [e] at h4
      refine fun s' ad' F' H' x1 x2 x3 x4 x5 => ⟨_, r2, ad', m2, F', RWs.ext x1 b, x3, x2, ?_⟩
      cases e' : gs xs r2 m2 with
      | none => simp only [e'] at h4
      | some p =>
        obtain ⟨r3, m3⟩ := p
        simp only [e'] at h4 ⊢
        exact fun s2 ad2 F2 H2 y1 y2 y3 y4 y5 => h4 s2 ad2 F2 H2 (x1.trans y1) y2 y3 (y4.trans x4) fun j hj => (y5 j fun z => hj (List.mem_append_right _ z)).trans (x5 j fun z => hj (List.mem_append_left _ z))
theorem dg_tup {k n : Nat} {gs : List W → Rho → Sto → Option (Rho × Sto)} (hc : X.calm = true) (h : DGs X sl es gs) (hn : (assignEach es X.env).length = n := by rfl) (hst : (assignEach es X.env).findIdx? (·.1) = none := by rfl) :
    DG X sl (.Tuple es k pos) (gT n gs) := pg_weak (pg_tup hc h hn hst) fun v s H q z => by
  obtain ⟨w, r, ad, m, F, h1, h2, h3, h4⟩ := z
  unfold gT at h4
  cases w with
  | c i => exact h4.elim
  | k i => exact h4.elim
  | d x =>
    cases x with
    | tuple ds =>
      cases h1 with
      | tup q1 s1 =>
        by_cases hl : ds.length = n
        · simp only [if_pos hl] at h4
          exact ⟨_, _, rfl, h3.le.sqT q1, by rw [s1.len]; exact hl, _, r, ad, m, F, rws_of s1, h2, h3, h4⟩
        · simp only [if_neg hl] at h4
    | none => exact h4.elim
    | bool _ => exact h4.elim
    | int _ => exact h4.elim
    | str _ => exact h4.elim
    | list _ => exact h4.elim
    | dict _ => exact h4.elim
end
/-- target = value -/
def sAsg (f : Fe) (g : Fg) : Fs := fun r m => (f r m).stm r fun w m1 => match g w r m1 with | some (r2, m2) => .nx r2 m2 | none => .bad
/-- two names at once -/
def sPar (i j : Nat) (f : Fa) : Fs := fun r m => (f r m).stm r fun ws m1 => match ws with | [v, w] => .nx ((r.set i (some v)).set j (some w)) m1 | _ => .bad
section
variable {X : Cx} {Wx : WX} {pos : Pos} {e tg : Expr} {fe : Fe} {g : Fg} {sl : List Nat}
theorem tasg_w {K : PySem.W.Frag} {D : Ends} {s : St} {H : Hp} (q : LS K Wx (sAsg fe g) D s H) : tAsg (LE K Wx fe) (LG K sl g) D s H := by
  obtain ⟨r, ad, m, F, he, hA, hp⟩ := q
  refine ⟨r, ad, m, F, he, hA, Post.mono (stm_post he hp) (fun w m1 ad1 F1 H1 e1 ha1 q0 v rw1 => ?_) fun _ _ _ _ _ _ _ _ z => z⟩
  have h1 := q0.2.2
  refine ⟨w, r, ad1, m1, F1, rw1, he.ext e1, ha1, ?_⟩
  cases e : g w r m1 with
  | none => simp only [e] at h1; exact h1
  | some p =>
    obtain ⟨r2, m2⟩ := p
    simp only [e] at h1 ⊢
    exact fun s' ad' F' H' x1 x2 x3 _ _ => h1 s' ad' F' H' x1 x2 x3
theorem ds_asg (h : DE X Wx e fe) (hg : DG X sl tg g) (hs : swapsWithSole [tg] e pos.line X.env = pure false := by rfl) (hw : swappedStores [tg] e X.env = pure none := by rfl)
    (h1 : (assignEach [tg] X.env).map (·.2) = [assign tg X.env] := by rfl) : DS X Wx (.Assign [tg] e pos) (sAsg fe g) := ps_weak (ps_asg h hg hs hw h1) fun D s H q => tasg_w q
theorem ds_set {i : Nat} {x : Str} {pos' : Pos} (h : PS X (.Assign [.Name x pos'] e pos) (tAsg (LE X.K Wx fe) (gName i))) : DS X Wx (.Assign [.Name x pos'] e pos) (sAsg fe (gN i)) := ps_weak h fun D s H q => by
  obtain ⟨r, ad, m, F, he, hA, hp⟩ := q
  refine ⟨r, ad, m, F, he, hA, Post.mono (stm_post he hp) (fun w m1 ad1 F1 H1 e1 ha1 q0 v rw1 => ?_) fun _ _ _ _ _ _ _ _ z => z⟩
  exact q0.2.2 _ _ _ _ Ext.refl ha1 ((he.ext e1).set i rw1)
theorem ds_par {i j : Nat} {st : Stmt} {f : Fa} (h : PS X st (tPar i j (LA X.K Wx f))) : DS X Wx st (sPar i j f) := ps_weak h fun D s H q => by
  obtain ⟨r, ad, m, F, he, hA, hp⟩ := q
  refine ⟨r, ad, m, F, he, hA, Post.mono (stm_post he hp) (fun ws m1 ad1 F1 H1 e1 ha1 q0 vs rw1 => ?_) fun _ _ _ _ _ _ _ _ z => z⟩
  have h1 := q0.2.2
  cases rw1 with
  | nil => exact h1.elim
  | cons a b =>
    cases b with
    | nil => exact h1.elim
    | cons c d =>
      cases d with
      | nil => exact ⟨_, _, rfl, h1 _ _ _ _ Ext.refl ha1 (((he.ext e1).set i a).set j c)⟩
      | cons _ _ => exact h1.elim
end

/-! ### what is walked -/
structure Src where
  items : List D
  gs : List (Nat × List D)
def grd (gs : List (Nat × List D)) (m : Sto) : Prop := ∀ p ∈ gs, lstOf (.c p.1) m = some p.2
abbrev Fi := Rho → Sto → Out Src
def SrcOk (K : PySem.W.Frag) (src : Src) (ad : List Addr) (F H : Hp) (J : It) : Prop :=
  ∃ (G : Hp → Prop) (Y : Nat → Hp → V → Hp → Prop), Walk J src.items.length G Y ∧
    (∀ ad2 F2 H2 m2, Ext ad F H ad2 F2 H2 → At K ad2 m2 F2 H2 → grd src.gs m2 → G H2) ∧
    ∀ i ad2 F2 H2 m2 x H3, i < src.items.length → Ext ad F H ad2 F2 H2 → At K ad2 m2 F2 H2 → grd src.gs m2 → Y i H2 x H3 → ∃ F3 d, src.items[i]? = some d ∧ Ext ad2 F2 H2 ad2 F3 H3 ∧ At K ad2 m2 F3 H3 ∧ Rp K F3 x d
def LI (K : PySem.W.Frag) (Wx : WX) (f : Fi) : TI := fun s H R => ∃ r ad m F, EnvOk K ad F r s ∧ At K ad m F H ∧ Post K ad F H (f r m) (fun src _ ad' F' H' => ∀ J, SrcOk K src ad' F' H' J → R J H') (XP K Wx s)
abbrev DI (X : Cx) (Wx : WX) (tg e : Expr) (f : Fi) : Prop := PI X tg e (LI X.K Wx f)
theorem pi_weak {X : Cx} {tg e : Expr} {t t' : TI} (h : PI X tg e t) (w : ∀ s H q, t' s H q → t s H q) : PI X tg e t' := ⟨fun p s σ H R I q => h.run p s σ H R I (w _ _ _ q)⟩
def gsOf (w : W) (xs : List D) : List (Nat × List D) := match w with | .c i => [(i, xs)] | _ => []
def iSeq (f : Fe) : Fi := fun r m => (f r m).bind fun w m1 => match lstOf w m1 with | some xs => .ok ⟨xs, gsOf w xs⟩ m1 | none => .bad
def iTupD (f : Fe) : Fi := fun r m => (f r m).bind fun w m1 => match w with | .d (.tuple xs) => .ok ⟨xs, []⟩ m1 | _ => .bad
def iStrD (f : Fe) : Fi := fun r m => (f r m).bind fun w m1 => match w with | .d (.str x) => .ok ⟨x.cps.toList.map fun c => .str ⟨#[c]⟩, []⟩ m1 | _ => .bad
def rngL (lo : Int) (n : Nat) : List D := (List.range n).map fun i => .int (lo + (i : Nat))
def iRange1 (f : Fe) : Fi := fun r m => (f r m).bind fun w m1 => match w with | .d (.int j) => if decide (-(2 ^ 62) ≤ j) && decide (j < 2 ^ 62) then .ok ⟨rngL 0 j.toNat, []⟩ m1 else .bad | _ => .bad
def iRange2 (f g : Fe) : Fi := fun r m => (f r m).bind fun w m1 => (g r m1).bind fun w2 m2 => match w, w2 with
  | .d (.int i), .d (.int j) => if decide (-(2 ^ 62) ≤ i) && decide (i < 2 ^ 62) && decide (-(2 ^ 62) ≤ j) && decide (j < 2 ^ 62) then .ok ⟨rngL i (j - i).toNat, []⟩ m2 else .bad
  | _, _ => .bad
section
variable {K : PySem.W.Frag} {Wx : WX}
/-- a list stands as the walk wants it, while its cell is not changed -/
theorem lst_stays {w : W} {v : V} {ad : List Addr} {m : Sto} {F H : Hp} {xs : List D} (r : RW K ad F w v) (hA : At K ad m F H) (e : lstOf w m = some xs) :
    ∃ a vs, v = .ref a ∧ RpA K F vs xs ∧ (∀ ad2 F2 H2 m2, Ext ad F H ad2 F2 H2 → At K ad2 m2 F2 H2 → grd (gsOf w xs) m2 → ∃ ws, SqL K H2 a ws ∧ RpA K F2 ws xs) ∧ SqL K H a vs := by
  obtain ⟨a, vs, rfl, q1, s1⟩ := hA.lst r e
  refine ⟨a, vs, rfl, s1, fun ad2 F2 H2 m2 x h2 g => ?_, q1⟩
  have r2 : RW K ad2 F2 w (.ref a) := r.ext x
  have e2 : lstOf w m2 = some xs := by
    cases w with
    | c i => exact g (i, xs) (by simp [gsOf])
    | d y => cases y <;> first | exact e | cases e
    | k y => exact e
  obtain ⟨b, ws, eb, q2, s2⟩ := h2.lst r2 e2
  cases eb
  exact ⟨ws, q2, s2⟩
end
section
variable {X : Cx} {Wx : WX} {tg e : Expr} {f : Fe}
theorem di_seq (h : DE X Wx e f) : DI X Wx tg e (iSeq f) := pi_weak (pi_list h) fun s H R q => by
  obtain ⟨r, ad, m, F, he, hA, hp⟩ := q
  refine ⟨_, _, _, _, he, hA, Post.mono (Post.bind hp) (fun w m1 ad1 F1 H1 e1 ha1 q0 v rw1 => ?_) fun _ _ _ _ _ _ _ _ z => z⟩
  obtain ⟨_, _, h1⟩ := q0
  cases e : lstOf w m1 with
  | none => simp only [e] at h1; exact h1.elim
  | some xs =>
    simp only [e] at h1
    obtain ⟨a, vs, rfl, s1, st, q1⟩ := lst_stays rw1 ha1 e
    refine ⟨a, rfl, ⟨vs, q1⟩, h1 ad1 F1 H1 Ext.refl ha1 _ ?_⟩
    refine ⟨fun H2 => ∃ ws, SqL X.K H2 a ws ∧ ws.length = xs.length, fun i H2 x H3 => H3 = H2 ∧ ∀ ws, SqL X.K H2 a ws → ws[i]? = some x, ⟨fun i H2 hi g => ?_, fun H2 g => ?_, fun i H2 x H3 hi g y => ?_⟩, fun ad2 F2 H2 m2 x h2 g => ?_, fun i ad2 F2 H2 m2 x H3 hi ex h2 g y => ?_⟩
    · obtain ⟨ws, g1, g2⟩ := g
      have hi' : i < ws.length := by rw [g2]; exact hi
      exact ⟨ws, ws[i], g1, List.getElem?_eq_getElem hi'⟩
    · obtain ⟨ws, g1, g2⟩ := g
      exact ⟨ws, g1, by rw [g2]; exact Nat.le_refl _⟩
    · exact y
    · obtain ⟨ws, g1, g2⟩ := st ad2 F2 H2 m2 x h2 g
      exact ⟨ws, g1, g2.len⟩
    · obtain ⟨rfl, y⟩ := y
      obtain ⟨ws, g1, g2⟩ := st ad2 F2 H3 m2 ex h2 g
      obtain ⟨v', b1, b2⟩ := g2.get (List.getElem?_eq_getElem hi)
      have := y ws g1
      rw [b1] at this
      cases this
      exact ⟨F2, xs[i], List.getElem?_eq_getElem hi, Ext.refl, h2, b2⟩
theorem di_tup (h : DE X Wx e f) : DI X Wx tg e (iTupD f) := pi_weak (pi_tup h) fun s H R q => by
  obtain ⟨r, ad, m, F, he, hA, hp⟩ := q
  refine ⟨_, _, _, _, he, hA, Post.mono (Post.bind hp) (fun w m1 ad1 F1 H1 e1 ha1 q0 v rw1 => ?_) fun _ _ _ _ _ _ _ _ z => z⟩
  obtain ⟨_, _, h1⟩ := q0
  cases w with
  | c _ => exact h1.elim
  | k _ => exact h1.elim
  | d y =>
    cases y with
    | tuple xs =>
      cases rw1 with
      | tup q1 s1 =>
        rename_i a vs
        refine ⟨a, rfl, ⟨vs, ha1.le.sqT q1⟩, h1 ad1 F1 H1 Ext.refl ha1 _ ?_⟩
        refine ⟨fun H2 => SqT X.K H2 a vs, YAt vs, by rw [← s1.len]; exact walk_tup, fun ad2 F2 H2 m2 x h2 g => h2.le.sqT (x.fle.sqT q1), fun i ad2 F2 H2 m2 x H3 hi ex h2 g y => ?_⟩
        obtain ⟨rfl, y⟩ := y
        obtain ⟨v', b1, b2⟩ := (s1.mono ex.fle).get (List.getElem?_eq_getElem hi)
        rw [b1] at y
        cases y
        exact ⟨F2, xs[i], List.getElem?_eq_getElem hi, Ext.refl, h2, b2⟩
    | none => exact h1.elim
    | bool _ => exact h1.elim
    | int _ => exact h1.elim
    | str _ => exact h1.elim
    | list _ => exact h1.elim
    | dict _ => exact h1.elim
theorem di_str (h : DE X Wx e f) (hp : PI X tg e (iStr (LE X.K Wx f))) : DI X Wx tg e (iStrD f) := pi_weak hp fun s H R q => by
  obtain ⟨r, ad, m, F, he, hA, hp⟩ := q
  refine ⟨_, _, _, _, he, hA, Post.mono (Post.bind hp) (fun w m1 ad1 F1 H1 e1 ha1 q0 v rw1 => ?_) fun _ _ _ _ _ _ _ _ z => z⟩
  obtain ⟨_, _, h1⟩ := q0
  cases w with
  | c _ => exact h1.elim
  | k _ => exact h1.elim
  | d y =>
    cases y with
    | str x =>
      cases rw1
      refine ⟨x, rfl, h1 ad1 F1 H1 Ext.refl ha1 _ ?_⟩
      refine ⟨fun _ => True, _, by rw [List.length_map, Array.length_toList]; exact walk_str, fun _ _ _ _ _ _ _ => True.intro, fun i ad2 F2 H2 m2 z H3 hi ex h2 g y => ?_⟩
      obtain ⟨rfl, c, hc, rfl⟩ := y
      refine ⟨F2, .str ⟨#[c]⟩, ?_, Ext.refl, h2, .str _⟩
      rw [List.getElem?_map, Array.getElem?_toList, hc]
      rfl
    | none => exact h1.elim
    | bool _ => exact h1.elim
    | int _ => exact h1.elim
    | tuple _ => exact h1.elim
    | list _ => exact h1.elim
    | dict _ => exact h1.elim
theorem rng_ok {K : PySem.W.Frag} {ad : List Addr} {F H : Hp} {lo : Int} {n : Nat} : SrcOk K ⟨rngL lo n, []⟩ ad F H (Itr lo n) := by
  have hl : (rngL lo n).length = n := by simp [rngL]
  refine ⟨fun _ => True, _, by show Walk _ (rngL lo n).length _ _; rw [hl]; exact walk_range, fun _ _ _ _ _ _ _ => True.intro, fun i ad2 F2 H2 m2 x H3 hi _ h2 _ y => ?_⟩
  obtain ⟨rfl, rfl⟩ := y
  have hi : i < (rngL lo n).length := hi
  rw [hl] at hi
  exact ⟨F2, .int (lo + i), by show (rngL lo n)[i]? = _; simp [rngL, hi], Ext.refl, h2, .int _⟩
theorem di_range1 {it : Expr} (h : PI X tg it (iRng1 (LA X.K Wx (dCons f dNil)))) : DI X Wx tg it (iRange1 f) := pi_weak h fun s H R q => by
  obtain ⟨r, ad, m, F, he, hA, hp⟩ := q
  have hp' : Post X.K ad F H ((dCons f dNil r m).bind fun ws m1 => match ws with | [w] => (match w with | .d (.int j) => if decide (-(2 ^ 62) ≤ j) && decide (j < 2 ^ 62) then .ok (⟨rngL 0 j.toNat, []⟩ : Src) m1 else .bad | _ => .bad) | _ => .bad) (fun src _ ad' F' H' => ∀ J, SrcOk X.K src ad' F' H' J → R J H') (XP X.K Wx s) := by
    unfold iRange1 at hp
    unfold dCons dNil
    cases e : f r m with
    | ok w m1 => rw [e] at hp; exact hp
    | exc c fs m1 => rw [e] at hp; exact hp
    | bad => rw [e] at hp; exact hp
  refine ⟨_, _, _, _, he, hA, Post.mono (Post.bind hp') (fun ws m1 ad1 F1 H1 e1 ha1 q0 vs rw1 => ?_) fun _ _ _ _ _ _ _ _ z => z⟩
  obtain ⟨_, _, h1⟩ := q0
  split at h1
  · obtain ⟨v, rfl, r1⟩ := rw1.one
    split at h1
    · split at h1
      · rename_i hb
        cases r1
        have hb := Bool.and_eq_true_iff.mp hb
        exact ⟨_, rfl, of_decide_eq_true hb.1, of_decide_eq_true hb.2, h1 _ _ _ Ext.refl ha1 _ rng_ok⟩
      · exact h1.elim
    · exact h1.elim
  · exact h1.elim
theorem di_range2 {it : Expr} {f2 : Fe} (h : PI X tg it (iRng2 (LA X.K Wx (dCons f (dCons f2 dNil))))) : DI X Wx tg it (iRange2 f f2) := pi_weak h fun s H R q => by
  obtain ⟨r, ad, m, F, he, hA, hp⟩ := q
  have hp' : Post X.K ad F H ((dCons f (dCons f2 dNil) r m).bind fun ws m1 => match ws with | [w, w2] => (match w, w2 with | .d (.int i), .d (.int j) => if decide (-(2 ^ 62) ≤ i) && decide (i < 2 ^ 62) && decide (-(2 ^ 62) ≤ j) && decide (j < 2 ^ 62) then .ok (⟨rngL i (j - i).toNat, []⟩ : Src) m1 else .bad | _, _ => .bad) | _ => .bad) (fun src _ ad' F' H' => ∀ J, SrcOk X.K src ad' F' H' J → R J H') (XP X.K Wx s) := by
    unfold iRange2 at hp
    unfold dCons dNil
    cases e : f r m with
    | ok w m1 =>
      rw [e] at hp
      cases e2 : f2 r m1 with
      | ok w2 m2 => simp only [Out.bind_ok, e2] at hp ⊢; exact hp
      | exc c fs m1 => simp only [Out.bind_ok, e2] at hp ⊢; exact hp
      | bad => simp only [Out.bind_ok, e2] at hp; exact hp.elim
    | exc c fs m1 => rw [e] at hp; exact hp
    | bad => rw [e] at hp; exact hp
  refine ⟨_, _, _, _, he, hA, Post.mono (Post.bind hp') (fun ws m1 ad1 F1 H1 e1 ha1 q0 vs rw1 => ?_) fun _ _ _ _ _ _ _ _ z => z⟩
  obtain ⟨_, _, h1⟩ := q0
  split at h1
  · obtain ⟨v, u, rfl, r1, r2⟩ := rw1.two
    split at h1
    · split at h1
      · rename_i hb
        cases r1
        cases r2
        have hb := Bool.and_eq_true_iff.mp hb
        have hc := Bool.and_eq_true_iff.mp hb.1
        have hd := Bool.and_eq_true_iff.mp hc.1
        exact ⟨_, _, rfl, ⟨of_decide_eq_true hd.1, of_decide_eq_true hd.2, of_decide_eq_true hc.2, of_decide_eq_true hb.2⟩, h1 _ _ _ Ext.refl ha1 _ rng_ok⟩
      · exact h1.elim
    · exact h1.elim
  · exact h1.elim
end
end DL

namespace DL
open PySem L2
open Classical in
/-- over the items, one by one -/
noncomputable def forL (gs : List (Nat × List D)) (tg : Fg) (body : Fs) : List D → Fs
  | [], r, m => if grd gs m then .nx r m else .bad
  | x :: xs, r, m => if grd gs m then match tg (.d x) r m with
    | some (r1, m1) => match body r1 m1 with
      | .nx r2 m2 => forL gs tg body xs r2 m2
      | .cnt r2 m2 => forL gs tg body xs r2 m2
      | .brk r2 m2 => .nx r2 m2
      | o => o
    | none => .bad
    else .bad
noncomputable def sFor (src : Fi) (tg : Fg) (body : Fs) : Fs := fun r m => (src r m).stm r fun s m1 => forL s.gs tg body s.items r m1
theorem forL_grd {gs : List (Nat × List D)} {tg : Fg} {body : Fs} {xs : List D} {r : Rho} {m : Sto} (h : ¬ grd gs m) : forL gs tg body xs r m = .bad := by
  cases xs <;> simp [forL, h]
section
variable {X : Cx} {Wx : WX} {pos : Pos} {tg it : Expr} {body : List Stmt} {f : Fi} {g : Fg} {fb : Fs} {sl : List Nat}
theorem ds_for (hp : PassesOwn (model X.prog X.w) X.A X.env X.xe) (hc : X.calm = true) (hi : DI X Wx tg it f) (hg : DG X sl tg g) (hb : DSs X Wx body fb) (hs : ∀ x, foldedSetIterable it X.env x = pure x := by intro _; rfl) :
    DS X Wx (.For tg it body [] pos) (sFor f g fb) := ps_weak (ps_for hp hc hi hg hb hs) fun D s H q => by
  obtain ⟨r, ad, m, F, he, hA, hp⟩ := q
  refine ⟨r, ad, m, F, he, hA, Post.mono (stm_post he hp) (fun src m1 ad1 F1 H1 e1 ha1 q0 J hJ => ?_) fun _ _ _ _ _ _ _ _ z => z⟩
  have h1 := q0.2.2
  obtain ⟨G, Y, wk, hG, hY⟩ := hJ
  refine for_it wk (fun i s2 H2 => ∃ r2 ad2 m2 F2, Ext ad1 F1 H1 ad2 F2 H2 ∧ EnvOk X.K ad2 F2 r2 s2 ∧ At X.K ad2 m2 F2 H2 ∧ PostS X.K Wx D ad2 F2 H2 (forL src.gs g fb (src.items.drop i) r2 m2))
    ⟨r, ad1, m1, F1, Ext.refl, he.ext e1, ha1, h1⟩ (fun i s2 H2 hi p => ?_) (fun i x s2 H2 H3 hi p y => ?_) fun s2 H2 p => ?_
  · obtain ⟨r2, ad2, m2, F2, x2, he2, ha2, hp2⟩ := p
    by_cases hgd : grd src.gs m2
    · exact hG ad2 F2 H2 m2 x2 ha2 hgd
    · rw [forL_grd hgd] at hp2; exact hp2.elim
  · obtain ⟨r2, ad2, m2, F2, x2, he2, ha2, hp2⟩ := p
    by_cases hgd : grd src.gs m2
    · obtain ⟨F3, d, hd, x3, ha3, rp⟩ := hY i ad2 F2 H2 m2 x H3 hi x2 ha2 hgd y
      have e := List.drop_eq_getElem_cons hi
      rw [List.getElem?_eq_getElem hi] at hd
      cases hd
      rw [e] at hp2
      unfold forL at hp2
      rw [if_pos hgd] at hp2
      refine ⟨.d src.items[i], r2, ad2, m2, F3, rp, he2.ext x3, ha3, ?_⟩
      cases et : g (.d src.items[i]) r2 m2 with
      | none => rw [et] at hp2; exact hp2
      | some p =>
        obtain ⟨r4, m4⟩ := p
        rw [et] at hp2
        dsimp only at hp2 ⊢
        refine fun s' ad' F' H' y1 y2 y3 _ _ => ⟨r4, ad', m4, F', y3, y2, ?_⟩
        have hp3 := hp2.ext (x3.trans y1)
        have xx := (x2.trans x3).trans y1
        cases eb : fb r4 m4 with
        | nx r5 m5 => rw [eb] at hp3; exact fun s5 ad5 F5 H5 z1 z2 z3 => ⟨r5, ad5, m5, F5, xx.trans z1, z3, z2, hp3.ext z1⟩
        | cnt r5 m5 => rw [eb] at hp3; exact fun s5 ad5 F5 H5 z1 z2 z3 => ⟨r5, ad5, m5, F5, xx.trans z1, z3, z2, hp3.ext z1⟩
        | brk r5 m5 => rw [eb] at hp3; exact hp3
        | ret w m5 => rw [eb] at hp3; exact hp3
        | exc c fs r5 m5 => rw [eb] at hp3; exact hp3
        | bad => rw [eb] at hp3; exact hp3
    · rw [forL_grd hgd] at hp2; exact hp2.elim
  · obtain ⟨r2, ad2, m2, F2, x2, he2, ha2, hp2⟩ := p
    rw [List.drop_length] at hp2
    by_cases hgd : grd src.gs m2
    · unfold forL at hp2
      rw [if_pos hgd] at hp2
      exact hp2 _ _ _ _ Ext.refl ha2 he2
    · rw [forL_grd hgd] at hp2; exact hp2.elim
end

/-! ### while -/
def whileN (c : Ft) (b : Fs) : Nat → Fs
  | 0, _, _ => .bad
  | n + 1, r, m => (c r m).stm r fun k m1 => if k then match b r m1 with
      | .nx r2 m2 => whileN c b n r2 m2
      | .cnt r2 m2 => whileN c b n r2 m2
      | .brk r2 m2 => .nx r2 m2
      | o => o
    else .nx r m1
open Classical in
noncomputable def sWhile (c : Ft) (b : Fs) : Fs := fun r m => if h : ∃ n, whileN c b n r m ≠ .bad then whileN c b (Classical.choose h) r m else .bad
theorem whileN_more (c : Ft) (b : Fs) : ∀ (n : Nat) (r : Rho) (m : Sto), whileN c b n r m ≠ .bad → whileN c b (n + 1) r m = whileN c b n r m
  | 0, r, m, h => absurd rfl h
  | n + 1, r, m, h => by
    have e1 : whileN c b (n + 1) r m = (c r m).stm r fun k m1 => if k then match b r m1 with
      | .nx r2 m2 => whileN c b n r2 m2
      | .cnt r2 m2 => whileN c b n r2 m2
      | .brk r2 m2 => .nx r2 m2
      | o => o
      else .nx r m1 := rfl
    rw [e1] at h ⊢
    show ((c r m).stm r fun k m1 => if k then match b r m1 with
      | .nx r2 m2 => whileN c b (n + 1) r2 m2
      | .cnt r2 m2 => whileN c b (n + 1) r2 m2
      | .brk r2 m2 => .nx r2 m2
      | o => o
      else .nx r m1) = _
    cases ec : c r m with
    | ok k m1 =>
      simp only [ec, Out.stm_ok] at h ⊢
      cases k with
      | false => rfl
      | true =>
        simp only [if_true] at h ⊢
        cases eb : b r m1 with
        | nx r2 m2 => simp only [eb] at h ⊢; exact whileN_more c b n r2 m2 h
        | cnt r2 m2 => simp only [eb] at h ⊢; exact whileN_more c b n r2 m2 h
        | brk r2 m2 => rfl
        | ret w m2 => rfl
        | exc _ _ _ _ => rfl
        | bad => rfl
    | exc cc fs m1 => rfl
    | bad => rfl
theorem whileN_le (c : Ft) (b : Fs) {n k : Nat} {r : Rho} {m : Sto} (h : whileN c b n r m ≠ .bad) (hk : n ≤ k) : whileN c b k r m = whileN c b n r m := by
  induction k with
  | zero =>
    have e : n = 0 := by omega
    rw [e]
  | succ k ih =>
    by_cases q : n = k + 1
    · rw [q]
    · have e := ih (by omega)
      rw [← e]
      exact whileN_more c b k r m (by rw [e]; exact h)
theorem sWhile_eq {c : Ft} {b : Fs} {n : Nat} {r : Rho} {m : Sto} (h : whileN c b n r m ≠ .bad) : sWhile c b r m = whileN c b n r m := by
  have hx : ∃ n, whileN c b n r m ≠ .bad := ⟨n, h⟩
  unfold sWhile
  rw [dif_pos hx]
  have h2 := Classical.choose_spec hx
  rcases Nat.le_total n (Classical.choose hx) with q | q
  · exact whileN_le c b h q
  · exact (whileN_le c b h2 q).symm
/-- one turn -/
theorem sWhile_turn (c : Ft) (b : Fs) (r : Rho) (m : Sto) : sWhile c b r m = (c r m).stm r fun k m1 => if k then match b r m1 with
      | .nx r2 m2 => sWhile c b r2 m2
      | .cnt r2 m2 => sWhile c b r2 m2
      | .brk r2 m2 => .nx r2 m2
      | o => o
    else .nx r m1 := by
  have one : ∀ n, whileN c b (n + 1) r m = (c r m).stm r fun k m1 => if k then match b r m1 with
      | .nx r2 m2 => whileN c b n r2 m2
      | .cnt r2 m2 => whileN c b n r2 m2
      | .brk r2 m2 => .nx r2 m2
      | o => o
      else .nx r m1 := fun _ => rfl
  cases ec : c r m with
  | bad =>
    have hb : ∀ n, whileN c b n r m = .bad := fun n => by
      cases n with
      | zero => rfl
      | succ n => rw [one, ec]; rfl
    unfold sWhile
    rw [dif_neg fun ⟨n, h⟩ => h (hb n)]
    rfl
  | exc cc fs m1 =>
    have h : whileN c b 1 r m = .exc cc fs r m1 := by rw [one, ec]; rfl
    rw [sWhile_eq (n := 1) (by rw [h]; exact fun z => nomatch z), h]
    rfl
  | ok k m1 =>
    rw [Out.stm_ok]
    cases k with
    | false =>
      have h : whileN c b 1 r m = .nx r m1 := by rw [one, ec]; rfl
      rw [sWhile_eq (n := 1) (by rw [h]; exact fun z => nomatch z), h]
      rfl
    | true =>
      simp only [if_true]
      have go : ∀ r2 m2, (∀ n, whileN c b (n + 1) r m = whileN c b n r2 m2) → sWhile c b r m = sWhile c b r2 m2 := fun r2 m2 hh => by
        by_cases hx : ∃ n, whileN c b n r2 m2 ≠ .bad
        · obtain ⟨n, hn⟩ := hx
          rw [sWhile_eq hn, sWhile_eq (n := n + 1) (by rw [hh]; exact hn), hh]
        · have hy : ¬ ∃ n, whileN c b n r m ≠ .bad := fun ⟨n, hn⟩ => by
            cases n with
            | zero => exact hn rfl
            | succ n => rw [hh] at hn; exact hx ⟨n, hn⟩
          unfold sWhile
          rw [dif_neg hx, dif_neg hy]
      have fin : ∀ o, o ≠ OutS.bad → (∀ n, whileN c b (n + 1) r m = o) → sWhile c b r m = o := fun o ho hh => by
        rw [sWhile_eq (n := 1) (by rw [hh]; exact ho), hh]
      cases eb : b r m1 with
      | nx r2 m2 => exact go r2 m2 fun n => by rw [one, ec]; simp [eb]
      | cnt r2 m2 => exact go r2 m2 fun n => by rw [one, ec]; simp [eb]
      | brk r2 m2 => exact fin _ (fun z => nomatch z) fun n => by rw [one, ec]; simp [eb]
      | ret w m2 => exact fin _ (fun z => nomatch z) fun n => by rw [one, ec]; simp [eb]
      | exc c2 fs r2 m2 => exact fin _ (fun z => nomatch z) fun n => by rw [one, ec]; simp [eb]
      | bad =>
        have hb : ∀ n, whileN c b n r m = .bad := fun n => by
          cases n with
          | zero => rfl
          | succ n => rw [one, ec]; simp [eb]
        unfold sWhile
        rw [dif_neg fun ⟨n, h⟩ => h (hb n)]
theorem ds_while {X : Cx} {Wx : WX} {pos : Pos} {c : Expr} {body : List Stmt} {fc : Ft} {fb : Fs} (hp : PassesOwn (model X.prog X.w) X.A X.env X.xe) (hc : DT X Wx c fc) (hb : DSs X Wx body fb) :
    DS X Wx (.While c body [] pos) (sWhile fc fb) := ps_weak (ps_while hp hc hb) fun D s H q => by
  obtain ⟨r, ad, m, F, he, hA, hp⟩ := q
  have hx : ∃ n, whileN fc fb n r m ≠ .bad := Classical.byContradiction fun h => by
    unfold sWhile at hp
    rw [dif_neg h] at hp
    exact hp
  obtain ⟨n0, h0⟩ := hx
  rw [sWhile_eq h0] at hp
  refine ⟨fun n s2 H2 => ∃ r2 ad2 m2 F2, EnvOk X.K ad2 F2 r2 s2 ∧ At X.K ad2 m2 F2 H2 ∧ PostS X.K Wx D ad2 F2 H2 (whileN fc fb n r2 m2), ⟨n0, r, ad, m, F, he, hA, hp⟩, fun n s2 H2 p => ?_⟩
  obtain ⟨r2, ad2, m2, F2, he2, ha2, hp2⟩ := p
  cases n with
  | zero => exact hp2.elim
  | succ n =>
    refine ⟨r2, ad2, m2, F2, he2, ha2, Post.mono (stm_post he2 hp2) (fun k m3 ad3 F3 H3 e3 ha3 q0 b rb => ?_) fun _ _ _ _ _ _ _ _ z => z⟩
    subst rb
    have h3 := q0.2.2
    cases k with
    | false => exact iteF (h3 _ _ _ _ Ext.refl ha3 (he2.ext e3))
    | true =>
      simp only [if_true] at h3 ⊢
      refine ⟨fun s' H' => ∃ r2 ad2 m2 F2, EnvOk X.K ad2 F2 r2 s' ∧ At X.K ad2 m2 F2 H' ∧ PostS X.K Wx D ad2 F2 H' (whileN fc fb n r2 m2), fun s' H' p => ⟨n, Nat.lt_succ_self n, p⟩, r2, ad3, m3, F3, he2.ext e3, ha3, ?_⟩
      cases eb : fb r2 m3 with
      | nx r5 m5 => rw [eb] at h3; exact fun s5 ad5 F5 H5 z1 z2 z3 => ⟨r5, ad5, m5, F5, z3, z2, PostS.ext (o := whileN fc fb n r5 m5) h3 z1⟩
      | cnt r5 m5 => rw [eb] at h3; exact fun s5 ad5 F5 H5 z1 z2 z3 => ⟨r5, ad5, m5, F5, z3, z2, PostS.ext (o := whileN fc fb n r5 m5) h3 z1⟩
      | brk r5 m5 => rw [eb] at h3; exact h3
      | ret w m5 => rw [eb] at h3; exact h3
      | exc c fs r5 m5 => rw [eb] at h3; exact h3
      | bad => rw [eb] at h3; exact h3.elim

/-! ### comprehensions -/
def wipeR (r : Rho) : List Nat → Rho
  | [] => r
  | i :: is => (wipeR r is).set i none
open Classical in
noncomputable def lcL (gs : List (Nat × List D)) (tg : Fg) (tt : Ft) (te : Fe) (r : Rho) : List D → List D → Sto → Out (List D)
  | [], acc, m => if grd gs m then .ok acc m else .bad
  | x :: xs, acc, m => if grd gs m then match tg (.d x) r m with
    | some (r1, m1) => match tt r1 m1 with
      | .ok true m2 => match te r1 m2 with
        | .ok w m3 => match frz w m3 with
          | some (d, m4) => if acc.length < sizeLine then lcL gs tg tt te r xs (acc ++ [d]) m4 else .bad
          | none => .bad
        | _ => .bad
      | .ok false m2 => lcL gs tg tt te r xs acc m2
      | _ => .bad
    | none => .bad
    else .bad
noncomputable def dLc (f : Fi) (tg : Fg) (tt : Ft) (te : Fe) (vs : List Nat) : Fl := fun r m => (f r m).bind fun s m1 => lcL s.gs tg tt te (wipeR r vs) s.items [] m1
theorem lcL_grd {gs : List (Nat × List D)} {tg : Fg} {tt : Ft} {te : Fe} {r : Rho} {xs acc : List D} {m : Sto} (h : ¬ grd gs m) : lcL gs tg tt te r xs acc m = .bad := by
  cases xs <;> simp [lcL, h]
theorem wipe_in {s : St} {i : Nat} : ∀ {vs : List Nat}, i ∈ vs → (wipe s vs)[i]? = if i < s.length then some none else none
  | v :: vs, h => by
    unfold wipe
    by_cases e : v = i
    · subst e
      by_cases hl : v < s.length
      · rw [if_pos hl, List.getElem?_set_self (by rw [wipe_length]; exact hl)]
      · rw [if_neg hl, List.getElem?_eq_none]
        rw [List.length_set, wipe_length]
        omega
    · rw [List.getElem?_set_ne e]
      rcases List.mem_cons.mp h with h | h
      · exact absurd h.symm e
      · exact wipe_in h
theorem wipe_eq {s t : St} {sl vs : List Nat} (hs : ∀ i ∈ sl, i ∈ vs) (hl : t.length = s.length) (h : ∀ j, j ∉ sl → t[j]? = (wipe s vs)[j]?) : wipe t vs = wipe s vs := by
  apply List.ext_getElem?
  intro i
  by_cases q : i ∈ vs
  · rw [wipe_in q, wipe_in q, hl]
  · rw [wipe_out q, h i fun z => q (hs i z)]
theorem wipeR_len : ∀ (r : Rho) (vs : List Nat), (wipeR r vs).length = r.length
  | _, [] => rfl
  | r, v :: vs => by unfold wipeR; rw [List.length_set, wipeR_len r vs]
theorem EnvOk.wipe {K : PySem.W.Frag} {ad : List Addr} {F : Hp} {r : Rho} {s : St} (h : EnvOk K ad F r s) : ∀ vs : List Nat, EnvOk K ad F (wipeR r vs) (L2.wipe s vs)
  | [] => h
  | v :: vs => by
    have ih := EnvOk.wipe h vs
    refine ⟨by rw [wipeR_len, wipe_length]; exact h.len, fun i w e => ?_⟩
    unfold wipeR at e
    unfold L2.wipe
    by_cases q : v = i
    · subst q
      by_cases hl : v < (wipeR r vs).length
      · rw [List.getElem?_set_self hl] at e; cases e
      · rw [List.getElem?_eq_none (by rw [List.length_set]; omega)] at e; cases e
    · rw [List.getElem?_set_ne q] at e ⊢
      exact ih.get i w e
section
variable {K : PySem.W.Frag} {ad ad' : List Addr} {F F' H H' : Hp} {m : Sto}
theorem At.side (h : At K ad m F H) {p : Addr} {o : HO} (fp : F p = none) (np : p ∉ ad) : At K ad m F (upd H p o) := by
  refine ⟨fun a u e => ?_, h.len, h.nd, fun i a c e1 e2 => ?_⟩
  · rw [upd_ne (ne_of_none e fp)]; exact h.le _ _ e
  · have ne : a ≠ p := fun z => np (z ▸ List.mem_of_getElem? e1)
    have c0 := h.cel i a c e1 e2
    cases c with
    | lst ds => obtain ⟨q, vs, e, r⟩ := c0; exact ⟨q, vs, by rw [upd_ne ne]; exact e, r⟩
    | fz ds => exact c0
    | dk kvs => obtain ⟨q, vs, e, r⟩ := c0; exact ⟨q, vs, by rw [upd_ne ne]; exact e, r⟩
theorem Ext.side (x : Ext ad F H ad' F' H') {p : Addr} {o : HO} (hp : H p = none) : Ext ad F H ad' F' (upd H' p o) :=
  ⟨x.pre, x.fle, fun a u e n => by rw [upd_ne (ne_of_none e hp)]; exact x.fr a u e n, x.nw, x.gn⟩
end
abbrev W0 : WX := fun _ _ _ _ => False
/-- what stands at p is kept, and stays out of the told things -/
theorem Ext.keep {ad ad' : List Addr} {F F' H H' : Hp} {p : Addr} {o : HO} {K : PySem.W.Frag} {m : Sto} (x : Ext ad F H ad' F' H') (hp : H p = some o) (np : p ∉ ad) : H' p = some o ∧ p ∉ ad' :=
  ⟨x.fr p o hp np, fun z => by have := x.nw p z np; rw [hp] at this; cases this⟩
section
variable {X : Cx} {Wx : WX} {pos : Pos} {tg it elt : Expr} {f : Fi} {g : Fg} {ft : Ft} {fe : Fe} {sl vs : List Nat}
theorem lc_w (hsl : ∀ i ∈ sl, i ∈ vs) {s : St} {H : Hp} {Q : VK} (q : LF X.K Wx (dLc f g ft fe vs) s H Q) : tLc (LI X.K Wx f) (LG X.K sl g) (LT X.K W0 ft) (LE X.K W0 fe) vs s H Q := by
  obtain ⟨r, ad, m, F, he, hA, hp⟩ := q
  refine ⟨r, ad, m, F, he, hA, Post.mono (Post.bind hp) (fun src m1 ad1 F1 H1 e1 ha1 q0 J hJ Dn hD => ?_) fun _ _ _ _ _ _ _ _ z => z⟩
  obtain ⟨_, _, h1⟩ := q0
  obtain ⟨G, Y, wk, hG, hY⟩ := hJ
  obtain ⟨nD, fD⟩ := ha1.out hD
  have he1 := (he.ext e1).wipe vs
  refine lc_it wk (fun i H2 => ∃ ad2 m2 F2 acc ws, Ext ad1 F1 H1 ad2 F2 H2 ∧ At X.K ad2 m2 F2 H2 ∧ H2 Dn = some (.lst ws) ∧ F2 Dn = none ∧ Dn ∉ ad2 ∧ RpA X.K F2 ws acc ∧
      Post X.K ad1 F1 H1 (lcL src.gs g ft fe (wipeR r vs) (src.items.drop i) acc m2) (fun xs _ ad' F' H' => ∀ p vs, H p = none → H' p = some (.lst vs) → F' p = none → p ∉ ad' → RpA X.K F' vs xs → Q (.ref p) H') (XP X.K Wx s))
    ⟨ad1, m1, F1, [], [], Ext.refl.side hD, (ha1.side fD nD), upd_same, fD, nD, .nil, h1⟩ (fun i H2 hi p => ?_) (fun i x H2 H3 hi p y => ?_) fun H2 p => ?_
  · obtain ⟨ad2, m2, F2, acc, ws, x2, ha2, _, _, _, _, hp2⟩ := p
    by_cases hgd : grd src.gs m2
    · exact hG ad2 F2 H2 m2 x2 ha2 hgd
    · rw [lcL_grd hgd] at hp2; exact hp2.elim
  · obtain ⟨ad2, m2, F2, acc, ws, x2, ha2, d1, d2, d3, d4, hp2⟩ := p
    by_cases hgd : grd src.gs m2
    · obtain ⟨F3, d, hd, x3, ha3, rp⟩ := hY i ad2 F2 H2 m2 x H3 hi x2 ha2 hgd y
      have e := List.drop_eq_getElem_cons hi
      rw [List.getElem?_eq_getElem hi] at hd
      cases hd
      rw [e] at hp2
      unfold lcL at hp2
      rw [if_pos hgd] at hp2
      have xx3 := x2.trans x3
      obtain ⟨d1', d3'⟩ := x3.keep (K := X.K) (m := m2) d1 d3
      have d2' := x3.gn _ _ d2 d1 d3
      refine ⟨.d src.items[i], wipeR r vs, ad2, m2, F3, rp, (he1.ext xx3), ha3, ?_⟩
      cases et : g (.d src.items[i]) (wipeR r vs) m2 with
      | none => rw [et] at hp2; exact hp2
      | some p =>
        obtain ⟨r4, m4⟩ := p
        rw [et] at hp2
        dsimp only at hp2 ⊢
        refine fun s' ad4 F4 H4 y1 y2 y3 y4 y5 => ⟨wipe_eq hsl (by rw [y4, wipe_length]) y5, ?_⟩
        have xx4 := xx3.trans y1
        obtain ⟨d1'', d3''⟩ := y1.keep (K := X.K) (m := m2) d1' d3'
        have d2'' := y1.gn _ _ d2' d1' d3'
        have d4'' := (d4.mono x3.fle).mono y1.fle
        refine ⟨r4, ad4, m4, F4, y3, y2, ?_⟩
        cases eb : ft r4 m4 with
        | bad => rw [eb] at hp2; exact hp2
        | exc c fs m5 => rw [eb] at hp2; exact hp2.elim
        | ok b m5 =>
          rw [eb] at hp2
          refine fun ad5 F5 H5 z1 z2 b' hb' => ?_
          subst hb'
          have xx5 := xx4.trans z1
          obtain ⟨c1, c3⟩ := z1.keep (K := X.K) (m := m2) d1'' d3''
          have c2 := z1.gn _ _ d2'' d1'' d3''
          cases b with
          | false => exact iteF ⟨ad5, m5, F5, acc, ws, xx5, z2, c1, c2, c3, d4''.mono z1.fle, hp2⟩
          | true =>
            dsimp only at hp2
            refine iteT ⟨r4, ad5, m5, F5, y3.ext z1, z2, ?_⟩
            cases ee : fe r4 m5 with
            | bad => rw [ee] at hp2; exact hp2
            | exc c fs m6 => rw [ee] at hp2; exact hp2.elim
            | ok w m6 =>
              rw [ee] at hp2
              dsimp only at hp2
              refine fun ad6 F6 H6 u1 u2 yv hyv => ?_
              have xx6 := xx5.trans u1
              obtain ⟨b1, b3⟩ := u1.keep (K := X.K) (m := m2) c1 c3
              have b2 := u1.gn _ _ c2 c1 c3
              cases ef : frz w m6 with
              | none => rw [ef] at hp2; exact hp2.elim
              | some pr =>
                obtain ⟨dd, m7⟩ := pr
                rw [ef] at hp2
                dsimp only at hp2
                obtain ⟨F7, a7, x7, p7⟩ := frz_w u2 hyv ef
                have b2' := x7.gn _ _ b2 b1 b3
                have dA := ((d4''.mono z1.fle).mono u1.fle).mono x7.fle
                by_cases hz : acc.length < sizeLine
                · rw [if_pos hz] at hp2
                  exact ⟨ws, b1, by rw [dA.len]; exact hz, ad6, m7, F7, acc ++ [dd], ws ++ [yv], (xx6.trans x7).side hD, a7.side b2' b3, upd_same, b2', b3, dA.app (.cons p7 .nil), hp2⟩
                · rw [if_neg hz] at hp2; exact hp2.elim
    · rw [lcL_grd hgd] at hp2; exact hp2.elim
  · obtain ⟨ad2, m2, F2, acc, ws, x2, ha2, d1, d2, d3, d4, hp2⟩ := p
    rw [List.drop_length] at hp2
    by_cases hgd : grd src.gs m2
    · unfold lcL at hp2
      rw [if_pos hgd] at hp2
      exact hp2 _ _ _ x2 ha2 Dn ws (e1.was hD nD) d1 d2 d3 d4
    · rw [lcL_grd hgd] at hp2; exact hp2.elim
theorem df_lc (hsl : ∀ i ∈ sl, i ∈ vs) {e : Expr} (h : PE X e (tLc (LI X.K Wx f) (LG X.K sl g) (LT X.K W0 ft) (LE X.K W0 fe) vs)) : DF X Wx e (dLc f g ft fe vs) := pe_weak h fun s H Q q => lc_w hsl q
def tTru : Ft := fun _ m => .ok true m
theorem dts_nil {X : Cx} : PTs X [] (LT X.K W0 tTru) := ⟨fun p s σ H Q I h => pts_nil.run p s σ H Q I (by
  obtain ⟨r, ad, m, F, he, hA, hp⟩ := h
  exact hp _ _ _ Ext.refl hA _ rfl)⟩
end
/-- name = [..] : the list is made within the store -/
def sSetF (i : Nat) (cell : Bool) (f : Fl) : Fs := sAsg (if cell then dCell f else dData f) (gN i)
theorem ds_setF {X : Cx} {Wx : WX} {st : Stmt} {i : Nat} {f : Fl} {cell : Bool} (h : PS X st (tAsg (LF X.K Wx f) (gName i))) : DS X Wx st (sSetF i cell f) := ps_weak h fun D s H q => by
  obtain ⟨r, ad, m, F, he, hA, hp⟩ := q
  unfold sSetF sAsg at hp
  refine ⟨r, ad, m, F, he, hA, ?_⟩
  cases e : f r m with
  | bad => cases cell <;> simp [dCell, dData, e, PostS] at hp
  | exc c fs m' =>
    have hp' : PostS X.K Wx D ad F H (.exc c fs r m') := by cases cell <;> simpa [dCell, dData, e] using hp
    exact fun ad' F' H' e' h' d x => hp' _ _ _ _ _ e' h' (he.ext e') x
  | ok xs m1 =>
    refine fun ad1 F1 H1 e1 a1 p vs h0 hp' fp np rp => ?_
    cases cell with
    | true =>
      have hq : PostS X.K Wx D ad F H (.nx (r.set i (some (.c m1.length))) (m1 ++ [.lst xs])) := by simpa [dCell, e, gN] using hp
      have a2 := a1.grow (c := .lst xs) ⟨fp, vs, hp', rp⟩ np
      refine hq _ _ _ _ (e1.grow h0) a2 ((he.ext (e1.grow h0)).set i ⟨p, ?_, rfl⟩)
      rw [← a1.len, List.getElem?_append_right (Nat.le_refl _), Nat.sub_self]
      rfl
    | false =>
      have hq : PostS X.K Wx D ad F H (.nx (r.set i (some (.d (.list xs)))) m1) := by simpa [dData, e, gN] using hp
      obtain ⟨a2, x2⟩ := a1.adopt e1 h0 hp' fp np
      exact hq _ _ _ _ x2 a2 ((he.ext x2).set i (.lst upd_same (rp.mono fun b u q => by rw [upd_ne (ne_of_none q fp)]; exact q)))
end DL

namespace DL
open PySem L2 PyProof.Rows
/-! ### a def by data -/
structure FnD (P : Program) (w : World) (K : PySem.W.Frag) (mg : Str → Option Value) (base : Heap) (k : Nat) (f : Addr) (fd : FuncData) (ps : List Str) (Fn : List W → Sto → Out W) : Prop where
  run : ∀ (A : Around) (outer : List Env) (s : Shared) (H : Hp) (args : Args) (us : List Value) (ws : List W) (vs : List V) (Q : VK) (E : XK) (ad : List Addr) (m : Sto) (F : Hp),
    Room k A → A.guards = some [] → Env0 P w K mg base A outer s H → BindsTo s fd args (ps.zip us) → Vals vs us → vs.length = ps.length → RWs K ad F ws vs → At K ad m F H →
    Post K ad F H (Fn ws m) (fun a _ ad' F' H' => ∀ b, RW K ad' F' a b → Q b H') (fun c fs _ _ F' H' => ∀ d, XR K F' H' d fs → E c d H') →
    codeAny (model P w) A (.call (.ref f) args) (CR (L2.CX P w) outer P w H s Q E) s
theorem FnD.mono {P : Program} {w : World} {K : PySem.W.Frag} {mg : Str → Option Value} {base : Heap} {j k : Nat} {f : Addr} {fd : FuncData} {ps : List Str} {Fn : List W → Sto → Out W} (h : FnD P w K mg base j f fd ps Fn) (q : j ≤ k) : FnD P w K mg base k f fd ps Fn :=
  ⟨fun A o s H a us ws vs Q E ad m F hr => h.run A o s H a us ws vs Q E ad m F (hr.mono q)⟩
def runB (n : Nat) (f : Fs) (ws : List W) (m : Sto) : Out W := match f (ws.map some ++ List.replicate (n - ws.length) none) m with
  | .ret w m1 => .ok w m1
  | .nx _ m1 => .ok (.d .none) m1
  | .exc c fs _ m1 => .exc c fs m1
  | _ => .bad
theorem envOk_start {K : PySem.W.Frag} {ad : List Addr} {F : Hp} {N : List Str} {ws : List W} {vs : List V} (r : RWs K ad F ws vs) : EnvOk K ad F (ws.map some ++ List.replicate (N.length - ws.length) none) (L2.start N vs) := by
  have hl := r.len
  refine ⟨by unfold L2.start; simp [hl], fun i w e => ?_⟩
  by_cases hi : i < ws.length
  · rw [List.getElem?_append_left (by simpa using hi), List.getElem?_map, List.getElem?_eq_getElem hi] at e
    cases e
    obtain ⟨v, h1, h2⟩ : ∃ v, vs[i]? = some v ∧ RW K ad F ws[i] v := by
      have go : ∀ {ws : List W} {vs : List V} {i : Nat} (hi : i < ws.length), RWs K ad F ws vs → ∃ v, vs[i]? = some v ∧ RW K ad F ws[i] v := by
        intro ws
        induction ws with
        | nil => intro vs i hi; exact absurd hi (Nat.not_lt_zero _)
        | cons w ws ih =>
          intro vs i hi r
          cases r with
          | cons a b =>
            cases i with
            | zero => exact ⟨_, rfl, a⟩
            | succ i =>
              obtain ⟨v, h1, h2⟩ := ih (i := i) (by simpa using hi) b
              exact ⟨v, by simpa using h1, h2⟩
      exact go hi r
    refine ⟨v, ?_, h2⟩
    unfold L2.start
    rw [List.getElem?_append_left (by rw [List.length_map, ← hl]; exact hi), List.getElem?_map, h1]
    rfl
  · rw [List.getElem?_append_right (by simpa using hi), List.getElem?_replicate] at e
    split at e <;> cases e
section
variable {P : Program} {w : World} {K : PySem.W.Frag} {mg : Str → Option Value} {base : Heap}
/-- THE RULE: a def by its body -/
theorem okD {x qual : Str} {st : Stmt} {f : Addr} {fd : FuncData} {N ps : List Str} {k : Nat} {g : Fs} (F : Fun K x qual st f fd) (S : FnScope N ps (defScope st))
    (hb : ∀ (cdv : Value) (A : Around) (outer : List Env) (s : Shared) (H : Hp) (E : XK), Room k (A.deeper (envOfC qual (defScope st) s.heap.objs.size f cdv)) → (A.deeper (envOfC qual (defScope st) s.heap.objs.size f cdv)).guards = some [] →
      DSs (cxOf (L2.CX P w) P w K mg base N qual (defScope st) f cdv A outer s H E) (fun c d _ H => E c d H) (defBody st) g) : FnD P w K mg base (k + 1) f fd ps (runB N.length g) := by
  obtain ⟨oc, od, kV, doc, pm, an, cdv, ct, osl, rfl, lk, hcd⟩ := F.ex
  refine ⟨fun A outer s H args us ws vs Q E ad m Fz hr hg e0 hbn r hl rw hA hp => ?_⟩
  have kx : K.In s.heap := e0.mod.kin.keeps fun b o e => (e0.bs b o e).1
  have lim : s.heap.NoLimit := e0.mod.nolimit.keeps fun b o e => (e0.bs b o e).1
  have kinds : ∀ y ∈ ps.zip us, (defScope st).names.lookup y.1 = some .local ∨ ((defScope st).names.lookup y.1 = some .cell ∧ ((cellsFrom (s.heap.objs.size + 1) (defScope st).names []).lookup y.1).isSome = true) := by
    rintro ⟨n, v⟩ hy
    have hn : n ∈ ps := (List.of_mem_zip hy).1
    cases S.par n hn with
    | inl q => exact Or.inl q
    | inr q => exact Or.inr ⟨q, PySem.W.cellsFrom_some _ _ _ (Or.inl q)⟩
  refine codeAny_call_function hr.depth (kx _ _ lk) rfl S.co S.gen rfl (PySem.W.codeRec_of kx hcd) (hbn _ _ _ _ ?_)
  refine wpAny_newFunctionEnv_cells S.kind kinds fun env he s1 xx => ?_
  subst he
  refine ⟨lim.keeps xx.toInCall.keep, codeAny_func ?_⟩
  have body := hb cdv A outer s H E (hr.deeper _) hg
  have I := inv_start (CX := L2.CX P w) (E := E) (mg := mg) (base := base) S hr.hd e0 hl r xx
  refine wpAny_mono (body.run [] s1 (L2.start N vs) H { nx := fun _ H' => Q .non H', rt := Q } I ?_) (fun fl s' hs => ?_) fun e s' hs => hs
  · refine ⟨_, ad, m, Fz, envOk_start rw, hA, ?_⟩
    unfold runB at hp
    cases e : g (ws.map some ++ List.replicate (N.length - ws.length) none) m with
    | nx r1 m1 =>
      rw [e] at hp
      exact fun s' ad' F' H' x1 x2 x3 => hp _ _ _ x1 x2 _ Rp.non
    | ret w1 m1 =>
      rw [e] at hp
      exact fun v ad' F' H' x1 x2 x3 => hp _ _ _ x1 x2 _ x3
    | exc c fs r1 m1 =>
      rw [e] at hp
      exact fun s' d ad' F' H' x1 x2 x3 x4 => hp _ _ _ x1 x2 d x4
    | brk r1 m1 => rw [e] at hp; exact hp.elim
    | cnt r1 m1 => rw [e] at hp; exact hp.elim
    | bad => rw [e] at hp; exact hp.elim
  · cases fl with
    | ret u =>
      obtain ⟨v, σ', H', J, rv, q⟩ := hs
      exact ⟨v, H', J.os, J.bare, J.base, J.hok, rv, q⟩
    | next =>
      obtain ⟨σ', H', J, q⟩ := hs
      exact ⟨V.non, H', J.os, J.bare, J.base, J.hok, rfl, q⟩
    | brk => exact (show False from let ⟨_, _, _, q⟩ := hs; q).elim
    | cont => exact (show False from let ⟨_, _, _, q⟩ := hs; q).elim
end
def dCall (Fn : List W → Sto → Out W) (fs : Fa) : Fe := fun r m => (fs r m).bind fun ws m1 => Fn ws m1
section
variable {X : Cx} {Wx : WX} {k : Nat} {f : Addr} {fd : FuncData} {ps : List Str} {Fn : List W → Sto → Out W} {x : Str} {p pos : Pos} {e : Expr} {es : List Expr} {fs : Fa}
theorem run_D {dws : List W} {dvs : List V} {ds : List Value} (hF : FnD X.prog X.w X.K X.mg X.base k f fd ps Fn) (hr : Room k X.A) (hg : X.A.guards = some []) (tk : Takes X Wx) (hb : Binds X.K fd ps ds) (hd : Vals dvs ds) (hw : ∀ ad F, RWs X.K ad F dws dvs)
    {pins : List (Addr × Obj)} {σ : L2.St} {H : Hp} {s : Shared} {Q : VK} {us : List Value} {vs : List V} {ws : List W} {ad : List Addr} {m : Sto} {F : Hp}
    (hl : (vs ++ dvs).length = ps.length) (I : Inv X pins σ H s) (r : Vals vs us) (rw : RWs X.K ad F ws vs) (hA : At X.K ad m F H) (hp : Post X.K ad F H (Fn (ws ++ dws) m) (fun a _ ad' F' H' => ∀ b, RW X.K ad' F' a b → Q b H') (XP X.K Wx σ)) :
    wpAny (model X.prog X.w) X.A (call (.ref f) us) (EP X pins σ Q) X.xe s := by
  have r2 : Vals (vs ++ dvs) (us ++ ds) := r.append hd
  have rw2 : RWs X.K ad F (ws ++ dws) (vs ++ dvs) := by
    have go : ∀ {a : List W} {b : List V}, RWs X.K ad F a b → RWs X.K ad F (a ++ dws) (b ++ dvs) := by
      intro a
      induction a with
      | nil => intro b h; cases h; exact hw ad F
      | cons y ys ih => intro b h; cases h with | cons q t => exact .cons q (ih t)
    exact go rw
  refine wpAny_call (codeAny_mono (hF.run X.A X.stack s H ⟨us, []⟩ (us ++ ds) (ws ++ dws) (vs ++ dvs) Q (fun c d H' => Wx c d σ H') ad m F hr hg I.env0 (hb s us I.kIn (by rw [← r2.length]; exact hl)) r2 hl rw2 hA hp) fun res s' hq => ?_)
  cases res with
  | error ex => exact tk ex s' (XE.of_call I (fun _ _ _ q => q) hq)
  | ok fl =>
    cases fl with
    | ret u => exact I.after hq
    | next => exact (show False from hq).elim
    | brk => exact (show False from hq).elim
    | cont => exact (show False from hq).elim
/-- f(..) with as many arguments as parameters -/
theorem de_call (hF : FnD X.prog X.w X.K X.mg X.base k f fd ps Fn) (hr : Room k X.A) (hg : X.A.guards = some []) (tk : Takes X Wx) (hgl : Gl X x) (hm : X.mg x = some (.ref f)) (hk : PySem.W.keepIn X.K (.ref f) = true) (hb : Binds X.K fd ps [])
    (hn : (e :: es).length = ps.length) (ha : DA X Wx (e :: es) fs) (hfs : ∀ r m ws m1, fs r m = .ok ws m1 → ws.length = (e :: es).length) (hdb : (x == ("__debug__" : Str)) = false := by decide) (he : starEach (e :: es) X.env = (false, eval e X.env) :: starEach es X.env := by rfl)
    (hpl : (backTo pos (starEach es X.env)).any (·.1) = false := by rfl) : DE X Wx (.Call (.Name x p) (e :: es) [] pos) (dCall Fn fs) := by
  refine ⟨fun pins s σ H Q I h => ?_⟩
  obtain ⟨r, ad, m, F, hE, hA, hp⟩ := h
  refine wpAny_Call_Name_kw (ld_glob I hgl hm ?_ hdb)
  have step : LA X.K Wx fs σ H fun vs H1 => vs.length = ps.length ∧ ∃ ws ad1 m1 F1, RWs X.K ad1 F1 ws vs ∧ At X.K ad1 m1 F1 H1 ∧ Post X.K ad1 F1 H1 (Fn ws m1) (fun a _ ad' F' H' => ∀ b, RW X.K ad' F' a b → Q b H') (XP X.K Wx σ) := by
    refine ⟨r, ad, m, F, hE, hA, ?_⟩
    unfold dCall at hp
    cases ef : fs r m with
    | bad => rw [ef] at hp; exact hp
    | exc c l m1 => rw [ef] at hp; exact hp
    | ok ws m1 =>
      rw [ef] at hp
      refine fun ad1 F1 H1 x1 x2 vs rv => ⟨by rw [← RWs.len rv, hfs _ _ _ _ ef, hn], ws, ad1, m1, F1, rv, x2, Post.ext (o := Fn ws m1) hp x1⟩
  refine PySem.W.callWith_K (h₀ := X.base) I.ok.mod.kin hk (thn (ha.run pos pins s σ H _ I step) fun us s1 ⟨vs, H1, I1, rv, hl, ws, ad1, m1, F1, rw1, a1, hp1⟩ => ⟨I1.kIn, ?_⟩) he hpl
  refine run_D (dws := []) (dvs := []) (ds := []) hF hr hg tk hb .nil (fun _ _ => .nil) (by rw [List.append_nil]; exact hl) I1 rv rw1 a1 ?_
  rw [List.append_nil]
  exact hp1
theorem len_cons {f : Fe} {fs : Fa} {n : Nat} (h : ∀ r m ws m1, fs r m = .ok ws m1 → ws.length = n) : ∀ r m ws m1, dCons f fs r m = .ok ws m1 → ws.length = n + 1 := by
  intro r m ws m1 e
  unfold dCons at e
  cases e1 : f r m with
  | bad => rw [e1] at e; cases e
  | exc c l m2 => rw [e1] at e; cases e
  | ok w m2 =>
    rw [e1] at e
    simp only [Out.bind_ok] at e
    cases e2 : fs r m2 with
    | bad => rw [e2] at e; cases e
    | exc c l m3 => rw [e2] at e; cases e
    | ok ws2 m3 =>
      rw [e2] at e
      simp only [Out.bind_ok, Out.ok.injEq] at e
      rw [← e.1, List.length_cons, h _ _ _ _ e2]
theorem len_nil : ∀ r m ws m1, dNil r m = .ok ws m1 → ws.length = 0 := by
  intro r m ws m1 e
  unfold dNil at e
  cases e
  rfl
end

/-! ### repr -/
def rRepr (K : PySem.W.Frag) : List V → Hp → VK → Prop := fun xs H Q => ∃ x d, xs = [x] ∧ Dp K H x d ∧ d.showable = true ∧ d.hasDict = false ∧ d.depth ≤ 64 ∧ d.shown.length ≤ sizeLine ∧ Q (.str d.shown) H
theorem call_repr {X : Cx} {k : Nat} (hr : Room k X.A) (hg : X.A.guards = some []) : CallR X (.builtin "repr") (rRepr X.K) := by
  intro pins s σ H xs us Q I r h
  obtain ⟨x, d, rfl, hd, h1, h2, h3, h4, q⟩ := h
  obtain ⟨u, rfl, ru⟩ := vals1 r
  cases hd with
  | non => cases ru; exact PySem.P.repr_of_none ⟨.str _, H, I.tok _, ⟨_, rfl⟩, q⟩
  | bl b => cases ru; exact PySem.P.repr_of_bool ⟨.str _, H, I.tok _, ⟨_, rfl⟩, q⟩
  | int i =>
    obtain ⟨t, rfl⟩ := ru
    have h1' : i.natAbs.log2 < 1920 := by simpa [PyData.showable] using h1
    exact PySem.P.repr_of_int h1' ⟨.str _, H, I.tok _, ⟨_, rfl⟩, q⟩
  | str x =>
    obtain ⟨t, rfl⟩ := ru
    exact PySem.P.repr_of_str ⟨.str _, H, I.tok _, ⟨_, rfl⟩, q⟩ h4
  | lst h5 h6 =>
    obtain ⟨as, rd⟩ := Dp.reads I _ _ _ (.lst h5 h6) ru
    cases ru
    exact repr_of_reads' rd h1 (PyData.noDict_hsm h2) hg (by have := hr.un; omega) (fun _ _ e => e) (fun h' u tk hk => ⟨.str _, H, I.kept hk, ⟨_, rfl⟩, q⟩) h4
  | tup h5 h6 =>
    obtain ⟨as, rd⟩ := Dp.reads I _ _ _ (.tup h5 h6) ru
    cases ru
    exact repr_of_reads' rd h1 (PyData.noDict_hsm h2) hg (by have := hr.un; omega) (fun _ _ e => e) (fun h' u tk hk => ⟨.str _, H, I.kept hk, ⟨_, rfl⟩, q⟩) h4
def okShow (d : D) : Bool := d.showable && !d.hasDict && decide (d.depth ≤ 64) && decide (d.shown.length ≤ sizeLine)
def gRepr : List W → Sto → Option W
  | [w], m => match datOf w m with | some x => if okShow x = true then some (.d (.str x.shown)) else none | none => none
  | _, _ => none
theorem cd_repr {K : PySem.W.Frag} : CallD K (rRepr K) gRepr := by
  intro ws z vs ad m F H Q r ha e q
  unfold gRepr at e
  split at e
  · obtain ⟨v, rfl, r1⟩ := r.one
    split at e
    · rename_i x hx
      split at e
      · rename_i hs
        cases e
        unfold okShow at hs
        simp only [Bool.and_eq_true, decide_eq_true_eq, Bool.not_eq_true'] at hs
        exact ⟨_, _, rfl, ha.dp r1 hx, hs.1.1.1, hs.1.1.2, hs.1.2, hs.2, q _ F H Ext.refl ha (.str _)⟩
      · cases e
    · cases e
  · cases e

/-! ### changes in place -/
def cellL (w : W) (m : Sto) : Option Nat := match w with | .c i => (match m[i]? with | some (.lst _) => some i | _ => none) | _ => none
theorem cellL_is {w : W} {m : Sto} {i : Nat} (h : cellL w m = some i) : w = .c i ∧ ∃ xs, m[i]? = some (.lst xs) := by
  unfold cellL at h
  split at h
  · split at h
    · cases h
      exact ⟨rfl, _, by assumption⟩
    · cases h
  · cases h
def MtD (K : PySem.W.Frag) (r : V → List V → Hp → VK → Prop) (g : Nat → List W → Sto → Option (W × Sto)) : Prop := ∀ (i : Nat) (ws : List W) (z : W) (u : V) (vs : List V) (ad : List Addr) (m m' : Sto) (F H : Hp) (Q : VK),
  RW K ad F (.c i) u → RWs K ad F ws vs → At K ad m F H → g i ws m = some (z, m') → (∀ b F' H', Ext ad F H ad F' H' → At K ad m' F' H' → RW K ad F' z b → Q b H') → r u vs H Q
def dMt (g : Nat → List W → Sto → Option (W × Sto)) (f : Fe) (fs : Fa) : Fe := fun r m => (f r m).bind fun w m1 => match cellL w m1 with
  | some i => (fs r m1).bind fun ws m2 => match g i ws m2 with | some (z, m3) => .ok z m3 | none => .bad
  | none => .bad
section
variable {K : PySem.W.Frag} {Wx : WX} {f : Fe} {fs : Fa}
theorem ty_cell {ad : List Addr} {m : Sto} {F H : Hp} {w : W} {u : V} {i : Nat} (h : At K ad m F H) (r : RW K ad F w u) (e : cellL w m = some i) : tyV K "list" u H := by
  obtain ⟨rfl, xs, hm⟩ := cellL_is e
  obtain ⟨a, ha, rfl⟩ := r
  obtain ⟨_, vs, hv, _⟩ := h.cel _ _ _ ha hm
  exact .inl ⟨rfl, vs, SqL.of hv⟩
theorem mt_w {r : V → List V → Hp → VK → Prop} {g : Nat → List W → Sto → Option (W × Sto)} (hg : MtD K r g) {s : L2.St} {H : Hp} {Q : VK} (q : LE K Wx (dMt g f fs) s H Q) : tBM K "list" r (LE K Wx f) (LA K Wx fs) s H Q := by
  obtain ⟨ρ, ad, m, F, he, hA, hp⟩ := q
  refine ⟨_, _, _, _, he, hA, Post.mono (Post.bind hp) (fun w m1 ad1 F1 H1 e1 ha1 q0 u rw1 => ?_) fun _ _ _ _ _ _ _ _ z => z⟩
  obtain ⟨_, _, h1⟩ := q0
  cases ec : cellL w m1 with
  | none => rw [ec] at h1; exact h1.elim
  | some i =>
    rw [ec] at h1
    refine ⟨ty_cell ha1 rw1 ec, ?_⟩
    obtain ⟨rfl, _⟩ := cellL_is ec
    have he1 := he.ext e1
    refine ⟨_, _, _, _, he1, ha1, Post.mono (Post.bind h1) (fun ws m2 ad2 F2 H2 e2 ha2 q0 vs rw2 => ?_) fun _ _ _ _ _ _ _ _ z => z⟩
    obtain ⟨_, _, h2⟩ := q0
    cases eg : g i ws m2 with
    | none => rw [eg] at h2; exact h2.elim
    | some p =>
      obtain ⟨z, m3⟩ := p
      rw [eg] at h2
      exact hg i ws z u vs ad2 m2 m3 F2 H2 Q (rw1.ext e2) rw2 ha2 eg fun b F' H' x1 x2 x3 => h2 _ _ _ x1 x2 b x3
theorem mt0_w {r : V → List V → Hp → VK → Prop} {g : Nat → List W → Sto → Option (W × Sto)} (hg : MtD K r g) {s : L2.St} {H : Hp} {Q : VK} (q : LE K Wx (dMt g f dNil) s H Q) : tBM0 K "list" r (LE K Wx f) s H Q := by
  obtain ⟨ρ, ad, m, F, he, hA, hp⟩ := q
  refine ⟨_, _, _, _, he, hA, Post.mono (Post.bind hp) (fun w m1 ad1 F1 H1 e1 ha1 q0 u rw1 => ?_) fun _ _ _ _ _ _ _ _ z => z⟩
  obtain ⟨_, _, h1⟩ := q0
  cases ec : cellL w m1 with
  | none => rw [ec] at h1; exact h1.elim
  | some i =>
    rw [ec] at h1
    refine ⟨ty_cell ha1 rw1 ec, ?_⟩
    obtain ⟨rfl, _⟩ := cellL_is ec
    unfold dNil at h1
    dsimp only at h1
    rw [Out.bind_ok] at h1
    cases eg : g i [] m1 with
    | none => rw [eg] at h1; exact h1.elim
    | some p =>
      obtain ⟨z, m3⟩ := p
      rw [eg] at h1
      exact hg i [] z u [] ad1 m1 m3 F1 H1 Q rw1 .nil ha1 eg fun b F' H' x1 x2 x3 => h1 _ _ _ x1 x2 b x3
end
/-- xs.append(e) -/
def gApp (i : Nat) : List W → Sto → Option (W × Sto)
  | [y], m => match frz y m with
    | some (x, m1) => (match m1[i]? with
      | some (.lst xs) => if xs.length < sizeLine then some (.d .none, m1.set i (.lst (xs ++ [x]))) else none
      | _ => none)
    | none => none
  | _, _ => none
theorem md_app {K : PySem.W.Frag} : MtD K rAppend gApp := by
  intro i ws z u vs ad m m' F H Q r1 r2 hA e q
  unfold gApp at e
  split at e
  · rename_i y m0
    obtain ⟨v, rfl, ry⟩ := r2.one
    split at e
    · rename_i x m1 ef
      split at e
      · rename_i xs hm
        split at e
        · rename_i hz
          cases e
          obtain ⟨a, ha, rfl⟩ := r1
          obtain ⟨F', h', x', p'⟩ := frz_w hA ry ef
          obtain ⟨fa, ws, hv, s⟩ := h'.cel _ _ _ ha hm
          obtain ⟨h2, x2⟩ := h'.write (o := .lst (ws ++ [v])) (c := .lst (xs ++ [x])) ha fa ⟨fa, ws ++ [v], upd_same, s.app (.cons p' .nil)⟩
          exact ⟨a, ws, v, rfl, rfl, hv, by rw [s.len]; exact hz, q _ _ _ (x'.trans x2) h2 Rp.non⟩
        · cases e
      · cases e
    · cases e
  · cases e
/-- xs.pop() -/
def gPop (i : Nat) : List W → Sto → Option (W × Sto)
  | [], m => match m[i]? with
    | some (.lst xs) => (match xs[xs.length - 1]? with | some x => some (.d x, m.set i (.lst xs.dropLast)) | none => none)
    | _ => none
  | _, _ => none
theorem md_pop {K : PySem.W.Frag} : MtD K rPop gPop := by
  intro i ws z u vs ad m m' F H Q r1 r2 hA e q
  unfold gPop at e
  split at e
  · cases r2
    split at e
    · rename_i xs hm
      split at e
      · rename_i x hx
        cases e
        obtain ⟨a, ha, rfl⟩ := r1
        obtain ⟨fa, ws, hv, s⟩ := hA.cel _ _ _ ha hm
        obtain ⟨v, hv2, rp⟩ := s.get hx
        obtain ⟨h2, x2⟩ := hA.write (o := .lst ws.dropLast) (c := .lst xs.dropLast) ha fa ⟨fa, ws.dropLast, upd_same, s.dropLast⟩
        exact ⟨a, ws, v, rfl, rfl, hv, by rw [s.len]; exact hv2, q _ _ _ x2 h2 rp⟩
      · cases e
    · cases e
  · cases e
/-- xs.pop(k) -/
def gPopAt (i : Nat) : List W → Sto → Option (W × Sto)
  | [.d (.int k)], m => match m[i]? with
    | some (.lst xs) => if 0 ≤ k ∧ k < 2 ^ 62 then (match xs[k.toNat]? with | some x => some (.d x, m.set i (.lst (xs.eraseIdx k.toNat))) | none => none) else none
    | _ => none
  | _, _ => none
theorem md_popAt {K : PySem.W.Frag} : MtD K rPopAt gPopAt := by
  intro i ws z u vs ad m m' F H Q r1 r2 hA e q
  unfold gPopAt at e
  split at e
  · obtain ⟨v, rfl, ry⟩ := r2.one
    cases ry
    split at e
    · rename_i xs hm
      split at e
      · rename_i hk
        split at e
        · rename_i x hx
          cases e
          obtain ⟨a, ha, rfl⟩ := r1
          obtain ⟨fa, ws, hv, s⟩ := hA.cel _ _ _ ha hm
          obtain ⟨v, hv2, rp⟩ := s.get hx
          obtain ⟨h2, x2⟩ := hA.write (o := .lst _) (c := .lst _) ha fa ⟨fa, _, upd_same, s.eraseIdx (Int.toNat _)⟩
          have hl : Int.toNat _ < xs.length := (List.getElem?_eq_some_iff.mp hx).1
          refine ⟨a, ws, _, _, v, rfl, rfl, hv, by omega, by omega, (ixN_seq (j := Int.toNat _) ?_).1, hv2, q _ _ _ x2 h2 rp⟩
          unfold ixN
          rw [if_pos hk.1, if_pos (by rw [s.len]; omega)]
        · cases e
      · cases e
    · cases e
  · cases e
/-- xs[k] = e, a cell -/
def gSet (fo fi : Fe) : Fg := fun w r m => match fo r m with
  | .ok wo m1 => (match fi r m1 with
    | .ok (.d (.int k)) m2 => (match cellL wo m2 with
      | some i => (match frz w m2 with
        | some (x, m3) => (match m3[i]? with
          | some (.lst xs) => (match ixN xs.length k with | some j => some (r, m3.set i (.lst (xs.set j x))) | none => none)
          | _ => none)
        | none => none)
      | none => none)
    | _ => none)
  | _ => none
theorem dg_set {X : Cx} {o i : Expr} {pos : Pos} {fo fi : Fe} (h : PG X (.Subscript o i pos) (L2.gSub (LE X.K W0 fo) (LE X.K W0 fi) rSetL)) : DG X [] (.Subscript o i pos) (gSet fo fi) := pg_weak h fun v s H q z => by
  obtain ⟨w, r, ad, m, F, h1, h2, h3, h4⟩ := z
  unfold gSet at h4
  refine ⟨r, ad, m, F, h2, h3, ?_⟩
  cases eo : fo r m with
  | bad => rw [eo] at h4; exact h4
  | exc c l m1 => rw [eo] at h4; exact h4.elim
  | ok wo m1 =>
    rw [eo] at h4
    dsimp only at h4
    refine fun ad1 F1 H1 x1 a1 vo ro => ⟨r, ad1, m1, F1, h2.ext x1, a1, ?_⟩
    cases ei : fi r m1 with
    | bad => rw [ei] at h4; exact h4
    | exc c l m2 => rw [ei] at h4; exact h4.elim
    | ok wi m2 =>
      rw [ei] at h4
      refine fun ad2 F2 H2 x2 a2 vi ri => ?_
      have ro2 := ro.ext x2
      have rw2 := (h1.ext x1).ext x2
      cases wi with
      | c _ => exact h4.elim
      | k _ => exact h4.elim
      | d dk =>
        cases dk with
        | int k =>
          cases ri
          dsimp only at h4
          cases ec : cellL wo m2 with
          | none => rw [ec] at h4; exact h4.elim
          | some i =>
            rw [ec] at h4
            dsimp only at h4
            obtain ⟨rfl, _⟩ := cellL_is ec
            cases ef : frz w m2 with
            | none => rw [ef] at h4; exact h4.elim
            | some p =>
              obtain ⟨x, m3⟩ := p
              rw [ef] at h4
              dsimp only at h4
              obtain ⟨F3, a3, x3, p3⟩ := frz_w a2 rw2 ef
              obtain ⟨a, ha, rfl⟩ := ro2
              cases em : m3[i]? with
              | none => rw [em] at h4; exact h4.elim
              | some cl =>
                rw [em] at h4
                cases cl with
                | fz _ => exact h4.elim
                | dk _ => exact h4.elim
                | lst xs =>
                  dsimp only at h4
                  obtain ⟨fa, ws, hv, sr⟩ := a3.cel _ _ _ ha em
                  cases ej : ixN xs.length k with
                  | none => rw [ej] at h4; exact h4.elim
                  | some j =>
                    rw [ej] at h4
                    obtain ⟨a4, x4⟩ := a3.write (o := .lst (ws.set j v)) (c := .lst (xs.set j x)) ha fa ⟨fa, _, upd_same, RpA.set p3 j sr⟩
                    have xx := (x1.trans x2).trans (x3.trans x4)
                    exact ⟨a, ws, k, j, rfl, rfl, hv, by rw [sr.len]; exact ej, h4 s _ _ _ xx a4 (h2.ext xx) rfl fun _ _ => rfl⟩
        | none => exact h4.elim
        | bool _ => exact h4.elim
        | str _ => exact h4.elim
        | list _ => exact h4.elim
        | tuple _ => exact h4.elim
        | dict _ => exact h4.elim
end DL

namespace DL
open PySem L2 PyProof.Rows
/-! ### the law's call -/
theorem rpa_ints {K : PySem.W.Frag} {F : Hp} : ∀ ns : List Int, RpA K F (ns.map V.int) (ns.map PyData.int)
  | [] => .nil
  | n :: r => .cons (.int n) (rpa_ints r)
theorem lawD {P : Program} {w : World} {K : PySem.W.Frag} {mg mb : Str → Option Value} {k : Nat} {fa a : Addr} {fd : FuncData} {x : Str} {Fn : List W → Sto → Out W} {s1 : Shared} {vs : List Value} {ns : List Int}
    (kx : K.In s1.heap) (hns : s1.heap.Ns mainGlobals mg) (hb : s1.heap.Ns builtinsNs mb) (hbb : ∀ y : Str, y ≠ "__name__" → mb y = bootBuiltins y) (hlim : s1.heap.NoLimit) (hg : s1.gens = #[])
    (ha : s1.heap.get? a = some { cls := .type "list", data := .seq vs.toArray }) (hi : IntsAre vs ns) (hl : ns.length ≤ sizeLine) (hr : Room k callerA)
    (hF : ∀ base : Heap, K.In base → base.Ns mainGlobals mg → FnD P w K mg base k fa fd [x] Fn) (hbind : ∀ (s : Shared) (u : Value), BindsTo s fd ⟨[u], []⟩ [(x, u)])
    (hFn : ∃ m, Fn [.k (ns.map PyData.int)] [] = .ok (.d (.bool true)) m) :
    codeAny (model P w) callerA (.call (.ref fa) ⟨[.ref a], []⟩) (fun r s' => r = .ok (.ret (.bool true)) ∧ OldK s1.heap s'.heap ∧ s'.os = s1.os ∧ AllBare s'.gens) s1 := by
  have vals := vals_ints hi
  have hlen : vs.length = ns.length := hi.length
  -- the abstract heap: the script alone, or nothing
  have main : ∀ H : Hp, (∀ b u, H b = some u → b = a ∧ K.lookup a = none ∧ ∃ o xs, u = .frz o (.lst xs)) → SqL K H a (ns.map V.int) → HOk P w H s1.heap →
      codeAny (model P w) callerA (.call (.ref fa) ⟨[.ref a], []⟩) (fun r s' => r = .ok (.ret (.bool true)) ∧ OldK s1.heap s'.heap ∧ s'.os = s1.os ∧ AllBare s'.gens) s1 := by
    intro H only sq ok
    have free : ∀ {b : Addr} {o : Obj} {es : Array DictEntry} {n : Nat}, s1.heap.get? b = some o → o.data = .dict es n → H b = none := by
      intro b o es n e1 e2
      rcases hq : H b with _ | u
      · rfl
      · obtain ⟨rfl, _⟩ := only b u hq
        rw [ha] at e1
        obtain rfl := Option.some.inj e1
        exact absurd e2 (by intro z; cases z)
    have nsOf : ∀ {b : Addr} {f : Str → Option Value}, s1.heap.Ns b f → (hidT s1.heap H).Ns b f := by
      rintro b f ⟨o, es, n, e1, e2, rest⟩
      exact ⟨o, es, n, hidT_get e1 (free e1 e2), e2, rest⟩
    have kb : K.In (hidT s1.heap H) := by
      intro b o e
      refine hidT_get (kx b o e) ?_
      rcases hq : H b with _ | u
      · rfl
      · obtain ⟨rfl, h2, _⟩ := only b u hq
        rw [h2] at e; cases e
    have md : Mod K mg (hidT s1.heap H) := by
      obtain ⟨mc, c1, c2⟩ := hlim
      exact ⟨kb, nsOf hns, ⟨mb, nsOf hb, hbb⟩, ⟨mc, nsOf c1, c2⟩⟩
    have env : Env0 P w K mg (hidT s1.heap H) callerA [] s1 H := by
      refine ⟨rfl, md, fun b o e => of_hidT e, Nat.le_of_eq (hidT_size _ _), trivial, ?_, ok, .of_eq hg⟩
      intro b hb
      exact absurd hb (List.not_mem_nil)
    obtain ⟨m, hm⟩ := hFn
    refine codeAny_mono ((hF _ kb (nsOf hns)).run callerA [] s1 H ⟨[.ref a], []⟩ [.ref a] [.k (ns.map PyData.int)] [.ref a] (fun v _ => v = .bl true) (fun _ _ _ => False) [] [] H hr rfl env (hbind s1 (.ref a)) (.cons rfl .nil) rfl
      (.cons ⟨a, _, rfl, sq, rpa_ints ns⟩ .nil) ⟨Ord.refl _, rfl, List.nodup_nil, fun i b c e _ => by simp at e⟩ ?_) fun r s' h => ?_
    · rw [hm]
      intro ad' F' H' _ _ b rb
      cases rb
      rfl
    · cases r with
      | error e =>
        obtain ⟨_, _, _, _, _, _, _, _, _, _, _, _, z⟩ := (show L2.CX P w [] H s1 (fun _ _ _ => False) e s' from h)
        exact z.elim
      | ok fl =>
        cases fl with
        | next => exact (show False from h).elim
        | brk => exact (show False from h).elim
        | cont => exact (show False from h).elim
        | ret u =>
          obtain ⟨v, H', h1, h2, h3, h4, h5, h6⟩ := (show CE [] P w H s1 (fun v _ => v = .bl true) u s' from h)
          subst h6
          obtain rfl : u = Value.bool true := h5
          refine ⟨rfl, OldK.of_keep fun b o e => ?_, h1, h2⟩
          rcases hq : H b with _ | u
          · exact h3.keep b o e hq (List.not_mem_nil) (List.not_mem_nil)
          · obtain ⟨_, _, o', xs, rfl⟩ := only b u hq
            have k1 := (ok b _ hq).1
            have k2 := (h4 b _ (h3.frzs b o' _ hq)).1
            rw [e] at k1
            rw [Option.some.inj k1]
            exact k2
  rcases hk : K.lookup a with _ | o
  · refine main (fun b => if b = a then some (.frz { cls := .type "list", data := .seq vs.toArray } (.lst (ns.map V.int))) else none) ?_ (.inl (.inr ⟨{ cls := .type "list", data := .seq vs.toArray }, if_pos rfl⟩)) ?_
    · intro b u e
      try dsimp only at e
      split at e
      · rename_i hb
        exact ⟨hb, hk, _, _, (Option.some.inj e).symm⟩
      · cases e
    · intro b u e
      try dsimp only at e
      split at e
      · rename_i hb
        subst hb
        obtain rfl := Option.some.inj e
        exact ⟨ha, by rw [List.length_map]; exact hl, vs, _, vals, ha⟩
      · cases e
  · have e := kx a o hk
    rw [ha] at e
    obtain rfl := Option.some.inj e
    refine main (fun _ => none) (fun b u e => by cases e) (.inr ⟨_, vs.toArray, _, hk, rfl, rfl, rfl, by rw [List.size_toArray, hlen]; exact hl, by simpa using vals⟩) (fun b u e => by cases e)
/-- the end of a law's row -/
theorem walkD {l : PySem.W.OpenLaw} {n k : Nat} {q : Program} {loose : List Str} {XP : (Str → Option Value) → Heap → Prop} {YP : World → Heap → Prop} {d : DefRec} {K : Params → PySem.W.Frag} {x : Str}
    (hn : l.most = some n) (hn2 : n ≤ sizeLine) (hdf : d.params.defaults = []) (hr : Room k callerA) (hY : ∀ (w : World) (h : Heap), YP w h → (K w.params).In h)
    (hF : ∀ (w : World) (mg : Str → Option Value) (fa : Addr) (h : Heap), (K w.params).In h → h.Ns mainGlobals mg → mg d.name = some (.ref fa) →
      ∃ fd : FuncData, (∀ (s : Shared) (u : Value), BindsTo s fd ⟨[u], []⟩ [(x, u)]) ∧ ∃ Fn : List W → Sto → Out W, (∀ ns : List Int, ns.length ≤ n → ∃ m, Fn [.k (ns.map PyData.int)] [] = .ok (.d (.bool true)) m) ∧
        ∀ base : Heap, (K w.params).In base → base.Ns mainGlobals mg → FnD l.prog w (K w.params) mg base k fa fd [x] Fn) :
    PySem.W.WalkO q loose XP YP l.row.toRowW d [] (fun f vs => PySem.call f vs) := by
  refine Att.attach_call hn hdf fun w s0 s1 mg mb fa o pm cd doc a vs ns G Y ho hd hcd hmg hobj hints hlen hg => ?_
  have kx := hY w _ Y
  obtain ⟨fd, hb, Fn, hFn, hF⟩ := hF w mg fa _ kx G.T.g hmg
  exact lawD kx G.T.g G.T.b G.T.builtins G.T.nolimit hg hobj hints (Nat.le_trans hlen hn2) hr hF hb (hFn ns hlen)
end DL

namespace DL
open PySem L2 PyProof.Rows
/-- a def of the module, by name -/
structure Df (P : Program) (w : World) (K : PySem.W.Frag) (mg : Str → Option Value) (base : Heap) (x : Str) (k : Nat) (ps : List Str) (Fn : List W → Sto → Out W) : Prop where
  ex : ∃ f fd, mg x = some (.ref f) ∧ PySem.W.keepIn K (.ref f) = true ∧ Binds K fd ps [] ∧ FnD P w K mg base k f fd ps Fn
theorem Df.intro {P : Program} {w : World} {K : PySem.W.Frag} {mg : Str → Option Value} {base : Heap} {x : Str} {k : Nat} {ps : List Str} {Fn : List W → Sto → Out W} (f : Addr) (fd : FuncData) (h1 : mg x = some (.ref f)) (h2 : PySem.W.keepIn K (.ref f) = true) (h3 : Binds K fd ps []) (h4 : FnD P w K mg base k f fd ps Fn) : Df P w K mg base x k ps Fn := ⟨f, fd, h1, h2, h3, h4⟩
theorem Df.mono {P : Program} {w : World} {K : PySem.W.Frag} {mg : Str → Option Value} {base : Heap} {x : Str} {j k : Nat} {ps : List Str} {Fn : List W → Sto → Out W} (h : Df P w K mg base x j ps Fn) (q : j ≤ k) : Df P w K mg base x k ps Fn := by
  obtain ⟨f, fd, h1, h2, h3, h4⟩ := h.ex
  exact ⟨f, fd, h1, h2, h3, h4.mono q⟩
theorem de_callD {X : Cx} {Wx : WX} {k : Nat} {ps : List Str} {Fn : List W → Sto → Out W} {x : Str} {p pos : Pos} {e : Expr} {es : List Expr} {fs : Fa} (D : Df X.prog X.w X.K X.mg X.base x k ps Fn) (hr : Room k X.A) (hg : X.A.guards = some []) (tk : Takes X Wx) (hgl : Gl X x)
    (hn : (e :: es).length = ps.length) (ha : DA X Wx (e :: es) fs) (hfs : ∀ r m ws m1, fs r m = .ok ws m1 → ws.length = (e :: es).length) (hdb : (x == ("__debug__" : Str)) = false := by decide) (he : starEach (e :: es) X.env = (false, eval e X.env) :: starEach es X.env := by rfl)
    (hpl : (backTo pos (starEach es X.env)).any (·.1) = false := by rfl) : DE X Wx (.Call (.Name x p) (e :: es) [] pos) (dCall Fn fs) := by
  obtain ⟨f, fd, h1, h2, h3, h4⟩ := D.ex
  exact de_call h4 hr hg tk hgl h1 h2 h3 hn ha hfs hdb he hpl
/-! ### comprehensions, with all that is asked said -/
theorem df_lcX {X : Cx} {Wx : WX} {elt tg iter : Expr} {ifs : List Expr} {scope : Scope} {pos : Pos} {f : Fi} {g : Fg} {ft : Ft} {fe : Fe} {vs : List Nat} (own : List (Str × Nat)) (sl : List Nat) (hc : X.calm = true) (hN : X.N.Nodup) (hvs : own.map (·.2) = vs) (hsl : ∀ i ∈ sl, i ∈ vs)
    (ok : BlkOk X.N X.env.scope scope own) (hs : ∀ x, foldedSetIterable iter X.env x = pure x) (hi : DI X Wx tg iter f) (hg : ∀ (s : Shared) (H : Hp) (C : Addr) (cl : List (Str × Addr)) (fp : List Addr), DG (X.blk s H scope (compEnvC scope cl C X.env) fp) sl tg g)
    (ht : ∀ (s : Shared) (H : Hp) (C : Addr) (cl : List (Str × Addr)) (fp : List Addr), PTs (X.blk s H scope (compEnvC scope cl C X.env) fp) ifs (LT X.K W0 ft)) (he : ∀ (s : Shared) (H : Hp) (C : Addr) (cl : List (Str × Addr)) (fp : List Addr), DE (X.blk s H scope (compEnvC scope cl C X.env) fp) W0 elt fe) :
    DF X Wx (.ListComp elt [⟨tg, iter, ifs, 0⟩] scope pos) (dLc f g ft fe vs) := by
  subst hvs
  exact df_lc hsl (pe_lc hc hN hi ok hg ht he hs)
theorem ds_lcX {X : Cx} {Wx : WX} {i : Nat} {y : Str} {py spos : Pos} {elt tg iter : Expr} {ifs : List Expr} {scope : Scope} {pos : Pos} {f : Fi} {g : Fg} {ft : Ft} {fe : Fe} {vs : List Nat} {cell : Bool} (own : List (Str × Nat)) (sl : List Nat) (hc : X.calm = true) (hN : X.N.Nodup) (hvs : own.map (·.2) = vs) (hsl : ∀ i ∈ sl, i ∈ vs)
    (ok : BlkOk X.N X.env.scope scope own) (hs : ∀ x, foldedSetIterable iter X.env x = pure x) (hy : X.N[i]? = some y) (hyl : X.env.scope.names.lookup y = some .local) (hsw : swapsWith (.ListComp elt [⟨tg, iter, ifs, 0⟩] scope pos) (some (.Name y py)) spos.line X.env = pure true)
    (hi : DI X Wx tg iter f) (hg : ∀ (s : Shared) (H : Hp) (C : Addr) (cl : List (Str × Addr)) (fp : List Addr), DG (X.blk s H scope (compEnvC scope cl C X.env) fp) sl tg g)
    (ht : ∀ (s : Shared) (H : Hp) (C : Addr) (cl : List (Str × Addr)) (fp : List Addr), PTs (X.blk s H scope (compEnvC scope cl C X.env) fp) ifs (LT X.K W0 ft)) (he : ∀ (s : Shared) (H : Hp) (C : Addr) (cl : List (Str × Addr)) (fp : List Addr), DE (X.blk s H scope (compEnvC scope cl C X.env) fp) W0 elt fe) :
    DS X Wx (.Assign [.Name y py] (.ListComp elt [⟨tg, iter, ifs, 0⟩] scope pos) spos) (sSetF i cell (dLc f g ft fe vs)) := by
  subst hvs
  exact ds_setF (ps_weak (ps_setLc hc hN hy hyl hsw hi ok hg ht he hs) fun D s H q => lc_w hsl q)
theorem dts_one {X : Cx} {c : Expr} {f : Ft} (h : DT X W0 c f) : PTs X [c] (LT X.K W0 f) := pts_one h
/-! ### more operations -/
/-- an order of ints or of texts -/
def gO (f : Int → Int → Bool) (g : Str → Str → Bool) : W → W → Sto → Option W
  | .d (.int i), .d (.int j), _ => some (.d (.bool (f i j)))
  | .d (.str i), .d (.str j), _ => some (.d (.bool (g i j)))
  | _, _, _ => none
theorem od_O {K : PySem.W.Frag} {f : Int → Int → Bool} {g : Str → Str → Bool} : OpD K (fun x y H Q => rI0 (fun i j => V.bl (f i j)) x y H Q ∨ ∃ i j, x = .str i ∧ y = .str j ∧ Q (.bl (g i j)) H) (gO f g) := by
  intro x y z u v ad m F H Q rx ry ha e q
  unfold gO at e
  split at e
  · cases e; cases rx; cases ry
    exact .inl ⟨_, _, rfl, rfl, q _ F H Ext.refl ha (.bl _)⟩
  · cases e; cases rx; cases ry
    exact .inr ⟨_, _, rfl, rfl, q _ F H Ext.refl ha (.bl _)⟩
  · cases e
abbrev gLtA := gO (fun i j => decide (i < j)) fun i j => decide (i.cps.toList < j.cps.toList)
abbrev gLeA := gO (fun i j => decide (i ≤ j)) fun i j => !decide (j.cps.toList < i.cps.toList)
abbrev gGtA := gO (fun i j => decide (j < i)) fun i j => decide (j.cps.toList < i.cps.toList)
abbrev gGeA := gO (fun i j => decide (j ≤ i)) fun i j => !decide (i.cps.toList < j.cps.toList)
section
variable {X : Cx}
theorem or_ltA : OpR X (compareOp .Lt) (fun x y H Q => rI0 (fun i j => V.bl (decide (i < j))) x y H Q ∨ ∃ i j, x = .str i ∧ y = .str j ∧ Q (.bl (decide (i.cps.toList < j.cps.toList))) H) := op_lt.or op_lt_str
theorem or_leA : OpR X (compareOp .LtE) (fun x y H Q => rI0 (fun i j => V.bl (decide (i ≤ j))) x y H Q ∨ ∃ i j, x = .str i ∧ y = .str j ∧ Q (.bl (!decide (j.cps.toList < i.cps.toList))) H) := op_le.or op_le_str
theorem or_gtA : OpR X (compareOp .Gt) (fun x y H Q => rI0 (fun i j => V.bl (decide (j < i))) x y H Q ∨ ∃ i j, x = .str i ∧ y = .str j ∧ Q (.bl (decide (j.cps.toList < i.cps.toList))) H) := op_gt.or op_gt_str
theorem or_geA : OpR X (compareOp .GtE) (fun x y H Q => rI0 (fun i j => V.bl (decide (j ≤ i))) x y H Q ∨ ∃ i j, x = .str i ∧ y = .str j ∧ Q (.bl (!decide (i.cps.toList < j.cps.toList))) H) := op_ge.or op_ge_str
end
section
variable {K : PySem.W.Frag}
theorem od_ltA : OpD K (fun x y H Q => rI0 (fun i j => V.bl (decide (i < j))) x y H Q ∨ ∃ i j, x = .str i ∧ y = .str j ∧ Q (.bl (decide (i.cps.toList < j.cps.toList))) H) gLtA := od_O
theorem od_leA : OpD K (fun x y H Q => rI0 (fun i j => V.bl (decide (i ≤ j))) x y H Q ∨ ∃ i j, x = .str i ∧ y = .str j ∧ Q (.bl (!decide (j.cps.toList < i.cps.toList))) H) gLeA := od_O
theorem od_gtA : OpD K (fun x y H Q => rI0 (fun i j => V.bl (decide (j < i))) x y H Q ∨ ∃ i j, x = .str i ∧ y = .str j ∧ Q (.bl (decide (j.cps.toList < i.cps.toList))) H) gGtA := od_O
theorem od_geA : OpD K (fun x y H Q => rI0 (fun i j => V.bl (decide (j ≤ i))) x y H Q ∨ ∃ i j, x = .str i ∧ y = .str j ∧ Q (.bl (!decide (i.cps.toList < j.cps.toList))) H) gGeA := od_O
/-- one sign in a text -/
def gInS : W → W → Sto → Option W
  | .d (.str x), .d (.str z), _ => (match x.cps.toList with | [c] => some (.d (.bool (decide (c ∈ z.cps.toList)))) | _ => none)
  | _, _, _ => none
def gNotInS : W → W → Sto → Option W
  | .d (.str x), .d (.str z), _ => (match x.cps.toList with | [c] => some (.d (.bool (!decide (c ∈ z.cps.toList)))) | _ => none)
  | _, _, _ => none
theorem str_one {x : Str} {c : Nat} (h : x.cps.toList = [c]) : x = ⟨#[c]⟩ := by
  obtain ⟨a⟩ := x
  congr 1
  exact Array.toList_inj.mp h
theorem od_inS : OpD K (fun x y H Q => ∃ (c : Nat) (z : Str), x = .str ⟨#[c]⟩ ∧ y = .str z ∧ Q (.bl (decide (c ∈ z.cps.toList))) H) gInS := by
  intro x y z u v ad m F H Q rx ry ha e q
  unfold gInS at e
  split at e
  · cases rx; cases ry
    split at e
    · rename_i c hc
      cases e
      exact ⟨c, _, by rw [str_one hc], rfl, q _ F H Ext.refl ha (.bl _)⟩
    · cases e
  · cases e
theorem od_notInS : OpD K (fun x y H Q => ∃ (c : Nat) (z : Str), x = .str ⟨#[c]⟩ ∧ y = .str z ∧ Q (.bl (!decide (c ∈ z.cps.toList))) H) gNotInS := by
  intro x y z u v ad m F H Q rx ry ha e q
  unfold gNotInS at e
  split at e
  · cases rx; cases ry
    split at e
    · rename_i c hc
      cases e
      exact ⟨c, _, by rw [str_one hc], rfl, q _ F H Ext.refl ha (.bl _)⟩
    · cases e
  · cases e
/-- data in a list -/
def gInD : W → W → Sto → Option W := fun a b m => match datOf a m, datOf b m with
  | some x, some (.list ys) => if SeqAt.shaped x && SeqAt.shaped (.list ys) then some (.d (.bool (ys.any fun z => PyData.eqv z x))) else none
  | _, _ => none
def gNotInD : W → W → Sto → Option W := fun a b m => match datOf a m, datOf b m with
  | some x, some (.list ys) => if SeqAt.shaped x && SeqAt.shaped (.list ys) then some (.d (.bool (!ys.any fun z => PyData.eqv z x))) else none
  | _, _ => none
theorem od_inD : OpD K (rInD K) gInD := by
  intro x y z u v ad m F H Q rx ry ha e q
  unfold gInD at e
  split at e
  · rename_i d1 d2 h1 h2
    split at e
    · rename_i hs
      cases e
      have := Bool.and_eq_true_iff.mp hs
      exact ⟨_, _, ha.dp rx h1, ha.dp ry h2, this.1, this.2, q _ F H Ext.refl ha (.bl _)⟩
    · cases e
  · cases e
theorem od_notInD : OpD K (rNotInD K) gNotInD := by
  intro x y z u v ad m F H Q rx ry ha e q
  unfold gNotInD at e
  split at e
  · rename_i d1 d2 h1 h2
    split at e
    · rename_i hs
      cases e
      have := Bool.and_eq_true_iff.mp hs
      exact ⟨_, _, ha.dp rx h1, ha.dp ry h2, this.1, this.2, q _ F H Ext.refl ha (.bl _)⟩
    · cases e
  · cases e
/-- a text so many times, at most a thousand -/
def gMulT : W → W → Sto → Option W
  | .d (.str x), .d (.int n), _ => if decide (0 ≤ n) && decide (n ≤ 1000) && decide (x.length ≤ 1000) then some (.d (.str (Txt.mul x n))) else none
  | _, _, _ => none
theorem od_mulT : OpD K (fun x y H Q => ∃ (z : Str) (n : Int), x = .str z ∧ y = .int n ∧ 0 ≤ n ∧ n ≤ 1000 ∧ z.length ≤ 1000 ∧ Q (.str (Txt.mul z n)) H) gMulT := by
  intro x y z u v ad m F H Q rx ry ha e q
  unfold gMulT at e
  split at e
  · split at e
    · rename_i hs
      cases e; cases rx; cases ry
      simp only [Bool.and_eq_true, decide_eq_true_eq] at hs
      exact ⟨_, _, rfl, rfl, hs.1.1, hs.1.2, hs.2, q _ F H Ext.refl ha (.str _)⟩
    · cases e
  · cases e
/-- a list so many times -/
def gRep : W → W → Sto → Option W := fun a b m => match datOf a m, b with
  | some (.list xs), .d (.int n) => if decide (0 ≤ n) && decide (n ≤ 1000) && decide (xs.length ≤ 1000) then some (.d (.list (List.replicate n.toNat xs).flatten)) else none
  | _, _ => none
end
theorem or_mulT {X : Cx} : OpR X (binaryOp .Mult) (fun x y H Q => ∃ (z : Str) (n : Int), x = .str z ∧ y = .int n ∧ 0 ≤ n ∧ n ≤ 1000 ∧ z.length ≤ 1000 ∧ Q (.str (Txt.mul z n)) H) := by
  intro pins s σ H x y v u Q I rx ry h
  obtain ⟨z, n, rfl, rfl, h0, h1, h2, q⟩ := h
  obtain ⟨t, rfl⟩ := rx
  obtain ⟨t', rfl⟩ := ry
  refine PySem.SB.mul ⟨?_, fun a b c => ?_, fun a b => ?_⟩ fun t' k => ⟨.str _, H, I.tok k, ⟨_, rfl⟩, q⟩
  · simp only [Bool.or_eq_false_iff, decide_eq_false_iff_not]
    omega
  · have : (1000 : Int) ≤ (2 ^ 63 - 1) / n := by
      rw [Int.le_ediv_iff_mul_le (by omega)]
      omega
    omega
  · unfold Builtin.Str.tooLong
    have h3 : z.length * n.toNat ≤ 1000 * 1000 := Nat.mul_le_mul h2 (by omega)
    have h4 : (sizeLine : Nat) = 16777216 := sizeLine_eq
    simp only [decide_eq_false_iff_not]
    omega
/-! ### join -/
def allS : List D → Option (List Str)
  | [] => some []
  | .str x :: r => (allS r).map (x :: ·)
  | _ :: _ => none
theorem allS_w {K : PySem.W.Frag} {F : Hp} : ∀ {vs : List V} {ds : List D} {bs : List Str}, RpA K F vs ds → allS ds = some bs → vs = bs.map V.str
  | _, _, bs, .nil, e => by cases e; rfl
  | _, _, bs, .cons (d := d) a r, e => by
    cases d with
    | str b =>
      cases a
      obtain ⟨cs, h1, rfl⟩ := Option.map_eq_some_iff.mp e
      rw [allS_w r h1]
      rfl
    | _ => cases e
def gJoin (a : Str) (w : W) (m : Sto) : Option W := match seqOf w m with
  | some xs => (match allS xs with
    | some ys => if (ys.map (·.length)).sum + ys.length * a.length ≤ 16777216 then some (.d (.str (Txt.join a ys))) else none
    | none => none)
  | none => none
def dJoin (f g : Fe) : Fe := fun r m => (f r m).bind fun w m1 => match w with
  | .d (.str a) => (g r m1).bind fun y m2 => .opt (gJoin a y m2) m2
  | _ => .bad
theorem de_join {X : Cx} {Wx : WX} {e : Expr} {f g : Fe} (h : PE X e (tM1 (fun x xs H Q => ∃ a p, ∃ ys : List Str, x = .str a ∧ xs = [.ref p] ∧ (SqL X.K H p (ys.map V.str) ∨ SqT X.K H p (ys.map V.str)) ∧
      (ys.map (·.length)).sum + ys.length * a.length ≤ 16777216 ∧ Q (.str (Txt.join a ys)) H) (LE X.K Wx f) (LE X.K Wx g))) : DE X Wx e (dJoin f g) := pe_weak h fun s H Q q => by
  obtain ⟨r, ad, m, F, he, hA, hp⟩ := q
  refine ⟨_, _, _, _, he, hA, Post.mono (Post.bind hp) (fun w m1 ad1 F1 H1 e1 ha1 q0 v rw1 => ?_) fun _ _ _ _ _ _ _ _ z => z⟩
  obtain ⟨_, _, h1⟩ := q0
  split at h1
  · rename_i a
    cases rw1
    refine ⟨⟨a, rfl⟩, _, _, _, _, he.ext e1, ha1, Post.mono (Post.bind h1) (fun y m2 ad2 F2 H2 e2 ha2 q0 u rw2 => ?_) fun _ _ _ _ _ _ _ _ z => z⟩
    obtain ⟨_, _, h2⟩ := q0
    cases ej : gJoin a y m2 with
    | none => rw [ej] at h2; exact h2.elim
    | some z =>
      rw [ej] at h2
      unfold gJoin at ej
      split at ej
      · rename_i xs hx
        split at ej
        · rename_i ys hy
          split at ej
          · rename_i hz
            cases ej
            obtain ⟨p, vs, rfl, hs, sr⟩ := ha2.seq rw2 hx
            have ev := allS_w sr hy
            subst ev
            exact ⟨a, p, ys, rfl, rfl, hs, hz, h2 _ _ _ Ext.refl ha2 _ (.str _)⟩
          · cases ej
        · cases ej
      · cases ej
  · exact h1.elim
theorem dt_chain {X : Cx} {Wx : WX} {pos : Pos} {a b c : Expr} {fa fb fc : Fe} {op op' : CmpOp} {r r' : R2} {g g' : W → W → Sto → Option W} (ho : OpR X (compareOp op) r) (ho' : OpR X (compareOp op') r') (hg : OpD X.K r g) (hg' : OpD X.K r' g') (ha : DE X Wx a fa) (hb : DE X Wx b fb) (hc : DE X Wx c fc)
    (h : PT X (.Compare a [op, op'] [b, c] pos) (tTest (tChain r r' (LE X.K Wx fa) (LE X.K Wx fb) (LE X.K Wx fc)))) : DT X Wx (.Compare a [op, op'] [b, c] pos) (dIsT (dChain g g' fa fb fc)) := by
  refine pt_weak h fun s H Q q => ?_
  obtain ⟨ρ, ad, m, F, he, hA, hp⟩ := q
  have hq : LE X.K Wx (dChain g g' fa fb fc) s H fun x H' => ∃ k, x = .bl k ∧ Q k H' := by
    refine ⟨ρ, ad, m, F, he, hA, (Post.bind hp).mono (fun w m1 ad1 F1 H1 e1 a1 q b rb => ?_) fun _ _ _ _ _ _ _ _ z => z⟩
    obtain ⟨_, _, q⟩ := q
    split at q
    · cases rb
      exact ⟨_, rfl, q _ _ _ Ext.refl a1 _ rfl⟩
    · exact q.elim
  exact chain_w hg hg' hq
end DL

/-! DL: how the meanings are reckoned, as rows for simp. -/
namespace DL
open PySem L2
section
variable (f f' f2 f3 : Fe) (t t' : Ft) (a a' : Fa) (l l' : Fl) (s s' : Fs) (g g' : W → W → Sto → Option W) (r : Rho) (m : Sto)
@[simp] theorem e_var (i : Nat) : dVar i r m = match r[i]? with | some (some w) => .ok w m | _ => .bad := rfl
@[simp] theorem e_c (x : D) : dC x r m = .ok (.d x) m := rfl
@[simp] theorem e_bin : dBin g f f' r m = (f r m).bind fun x m1 => (f' r m1).bind fun y m2 => .opt (g x y m2) m2 := rfl
@[simp] theorem e_tru : dTru f r m = (f r m).bind fun w m1 => .opt (tru w m1) m1 := rfl
@[simp] theorem e_isT : dIsT f r m = (f r m).bind fun w m1 => match w with | .d (.bool b) => .ok b m1 | _ => .bad := rfl
@[simp] theorem e_notT : dNotT t r m = (t r m).bind fun b m1 => .ok (!b) m1 := rfl
@[simp] theorem e_andT : dAndT t t' r m = (t r m).bind fun b m1 => if b then t' r m1 else .ok false m1 := rfl
@[simp] theorem e_orT : dOrT t t' r m = (t r m).bind fun b m1 => if b then .ok true m1 else t' r m1 := rfl
@[simp] theorem e_and : dAnd f f' r m = (f r m).bind fun w m1 => match tru w m1 with | some true => f' r m1 | some false => .ok w m1 | none => .bad := rfl
@[simp] theorem e_or : dOr f f' r m = (f r m).bind fun w m1 => match tru w m1 with | some true => .ok w m1 | some false => f' r m1 | none => .bad := rfl
@[simp] theorem e_not : dNot f r m = (f r m).bind fun w m1 => match tru w m1 with | some b => .ok (.d (.bool (!b))) m1 | none => .bad := rfl
@[simp] theorem e_if : dIf t f f' r m = (t r m).bind fun b m1 => if b then f r m1 else f' r m1 := rfl
@[simp] theorem e_un (h : W → Option W) : dUn h f r m = (f r m).bind fun w m1 => .opt (h w) m1 := rfl
@[simp] theorem e_chain : dChain g g' f f' f2 r m = (f r m).bind fun x m1 => (f' r m1).bind fun y m2 => match g x y m2 with
  | some (.d (.bool true)) => (f2 r m2).bind fun z m3 => .opt (g' y z m3) m3
  | some (.d (.bool false)) => .ok (.d (.bool false)) m2
  | _ => .bad := rfl
@[simp] theorem e_nil : dNil r m = .ok [] m := rfl
@[simp] theorem e_cons : dCons f a r m = (f r m).bind fun w m1 => (a r m1).bind fun ws m2 => .ok (w :: ws) m2 := rfl
@[simp] theorem e_tup : dTup a r m = (a r m).bind fun ws m1 => match frzs ws m1 with | some (ds, m2) => if ds.length ≤ sizeLine then .ok (.d (.tuple ds)) m2 else .bad | none => .bad := rfl
@[simp] theorem e_data : dData l r m = (l r m).bind fun xs m1 => .ok (.d (.list xs)) m1 := rfl
@[simp] theorem e_cell : dCell l r m = (l r m).bind fun xs m1 => .ok (.c m1.length) (m1 ++ [.lst xs]) := rfl
@[simp] theorem e_lst : dLst a r m = (a r m).bind fun ws m1 => match frzs ws m1 with | some (ds, m2) => if ds.length ≤ sizeLine then .ok ds m2 else .bad | none => .bad := rfl
@[simp] theorem e_oNone : oNone r m = .ok none m := rfl
@[simp] theorem e_oSome : oSome f r m = (f r m).bind fun w m1 => match w with | .d (.int i) => .ok (some i) m1 | _ => .bad := rfl
@[simp] theorem e_sl (x y : Fo) : dSl f x y r m = (f r m).bind fun w m1 => (x r m1).bind fun lo m2 => (y r m2).bind fun hi m3 => .opt (gSl lo hi w m3) m3 := rfl
@[simp] theorem e_cb (h : List W → Sto → Option W) : dCB h a r m = (a r m).bind fun ws m1 => .opt (h ws m1) m1 := rfl
@[simp] theorem e_cf (h : List W → Sto → Option (List D)) : dCF h a r m = (a r m).bind fun ws m1 => .opt (h ws m1) m1 := rfl
@[simp] theorem e_isi (T : String) : dIsi T f r m = (f r m).bind fun w m1 => match datOf w m1 with | some x => .ok (.d (.bool (isT T x))) m1 | none => .bad := rfl
@[simp] theorem e_call (F : List W → Sto → Out W) : dCall F a r m = (a r m).bind fun ws m1 => F ws m1 := rfl
@[simp] theorem e_mt (h : Nat → List W → Sto → Option (W × Sto)) : dMt h f a r m = (f r m).bind fun w m1 => match cellL w m1 with
  | some i => (a r m1).bind fun ws m2 => match h i ws m2 with | some (z, m3) => .ok z m3 | none => .bad
  | none => .bad := rfl
@[simp] theorem e_join : dJoin f f' r m = (f r m).bind fun w m1 => match w with | .d (.str x) => (f' r m1).bind fun y m2 => .opt (gJoin x y m2) m2 | _ => .bad := rfl
@[simp] theorem e_lc (i : Fi) (h : Fg) (vs : List Nat) : dLc i h t f vs r m = (i r m).bind fun s m1 => lcL s.gs h t f (wipeR r vs) s.items [] m1 := rfl
@[simp] theorem e_tTru : tTru r m = .ok true m := rfl
@[simp] theorem s_nx : sNx r m = .nx r m := rfl
@[simp] theorem s_seq : sSeq s s' r m = match s r m with | .nx r1 m1 => s' r1 m1 | o => o := rfl
@[simp] theorem s_drop : sDrop f r m = (f r m).stm r fun _ m1 => .nx r m1 := rfl
@[simp] theorem s_ret : sRet f r m = (f r m).stm r fun w m1 => .ret w m1 := rfl
@[simp] theorem s_retN : sRetN r m = .ret (.d .none) m := rfl
@[simp] theorem s_if : sIf t s s' r m = (t r m).stm r fun b m1 => if b then s r m1 else s' r m1 := rfl
@[simp] theorem s_asg (h : Fg) : sAsg f h r m = (f r m).stm r fun w m1 => match h w r m1 with | some (r2, m2) => .nx r2 m2 | none => .bad := rfl
@[simp] theorem s_par (i j : Nat) : sPar i j a r m = (a r m).stm r fun ws m1 => match ws with | [v, w] => .nx ((r.set i (some v)).set j (some w)) m1 | _ => .bad := rfl
@[simp] theorem s_setF (i : Nat) : sSetF i false l r m = (l r m).stm r fun xs m1 => .nx (r.set i (some (.d (.list xs)))) m1 := by
  show sAsg (dData l) (gN i) r m = _
  rw [s_asg, e_data]
  cases l r m <;> rfl
@[simp] theorem s_setC (i : Nat) : sSetF i true l r m = (l r m).stm r fun xs m1 => .nx (r.set i (some (.c m1.length))) (m1 ++ [.lst xs]) := by
  show sAsg (dCell l) (gN i) r m = _
  rw [s_asg, e_cell]
  cases l r m <;> rfl
@[simp] theorem s_for (i : Fi) (h : Fg) : sFor i h s r m = (i r m).stm r fun x m1 => forL x.gs h s x.items r m1 := rfl
@[simp] theorem t_n (i : Nat) (w : W) : gN i w r m = some (r.set i (some w), m) := rfl
@[simp] theorem t_t (n : Nat) (h : List W → Rho → Sto → Option (Rho × Sto)) (ds : List D) : gT n h (.d (.tuple ds)) r m = if ds.length = n then h (ds.map .d) r m else none := rfl
@[simp] theorem t_nil : gsNil [] r m = some (r, m) := rfl
@[simp] theorem t_cons (h : Fg) (hs : List W → Rho → Sto → Option (Rho × Sto)) (w : W) (ws : List W) : gsCons h hs (w :: ws) r m = match h w r m with | some (r2, m2) => hs ws r2 m2 | none => none := rfl
@[simp] theorem i_seq : iSeq f r m = (f r m).bind fun w m1 => match lstOf w m1 with | some xs => .ok ⟨xs, gsOf w xs⟩ m1 | none => .bad := rfl
@[simp] theorem i_tup : iTupD f r m = (f r m).bind fun w m1 => match w with | .d (.tuple xs) => .ok ⟨xs, []⟩ m1 | _ => .bad := rfl
@[simp] theorem i_str : iStrD f r m = (f r m).bind fun w m1 => match w with | .d (.str x) => .ok ⟨x.cps.toList.map fun c => .str ⟨#[c]⟩, []⟩ m1 | _ => .bad := rfl
@[simp] theorem i_range1 : iRange1 f r m = (f r m).bind fun w m1 => match w with | .d (.int j) => if decide (-(2 ^ 62) ≤ j) && decide (j < 2 ^ 62) then .ok ⟨rngL 0 j.toNat, []⟩ m1 else .bad | _ => .bad := rfl
end
section
variable (m : Sto)
@[simp] theorem frz_d (x : D) : frz (.d x) m = some (x, m) := rfl
@[simp] theorem frzs_nil : frzs [] m = some ([], m) := rfl
@[simp] theorem frzs_cons (w : W) (ws : List W) : frzs (w :: ws) m = match frz w m with
    | some (x, m1) => match frzs ws m1 with | some (xs, m2) => some (x :: xs, m2) | none => none
    | none => none := rfl
@[simp] theorem dat_d (x : D) : datOf (.d x) m = some x := rfl
@[simp] theorem lst_d (x : List D) : lstOf (.d (.list x)) m = some x := rfl
@[simp] theorem lst_k (x : List D) : lstOf (.k x) m = some x := rfl
@[simp] theorem lst_c (i : Nat) : lstOf (.c i) m = match m[i]? with | some (.lst xs) => some xs | some (.fz xs) => some xs | _ => none := rfl
@[simp] theorem dat_c (i : Nat) : datOf (.c i) m = match m[i]? with | some (.lst xs) => some (.list xs) | some (.fz xs) => some (.list xs) | _ => none := rfl
@[simp] theorem seq_l (x : List D) : seqOf (.d (.list x)) m = some x := rfl
@[simp] theorem seq_t (x : List D) : seqOf (.d (.tuple x)) m = some x := rfl
@[simp] theorem seq_c (i : Nat) : seqOf (.c i) m = match m[i]? with | some (.lst xs) => some xs | some (.fz xs) => some xs | _ => none := rfl
@[simp] theorem tru_b (b : Bool) : tru (.d (.bool b)) m = some b := rfl
@[simp] theorem tru_i (i : Int) : tru (.d (.int i)) m = some (i != 0) := rfl
@[simp] theorem tru_n : tru (.d .none) m = some false := rfl
@[simp] theorem add_i (i j : Int) : gAdd (.d (.int i)) (.d (.int j)) m = some (.d (.int (i + j))) := rfl
@[simp] theorem add_s (i j : Str) : gAdd (.d (.str i)) (.d (.str j)) m = if i.length + j.length ≤ sizeLine then some (.d (.str (i ++ j))) else none := rfl
@[simp] theorem add_t (i j : List D) : gAdd (.d (.tuple i)) (.d (.tuple j)) m = if i.length + j.length ≤ sizeLine then some (.d (.tuple (i ++ j))) else none := rfl
@[simp] theorem add_l (i j : List D) : gAdd (.d (.list i)) (.d (.list j)) m = if i.length + j.length ≤ sizeLine then some (.d (.list (i ++ j))) else none := rfl
@[simp] theorem gI_i (C : Int → Int → Bool) (f : Int → Int → D) (i j : Int) : gI C f (.d (.int i)) (.d (.int j)) m = if C i j = true then some (.d (f i j)) else none := rfl
@[simp] theorem gI0_i (f : Int → Int → D) (i j : Int) : gI0 f (.d (.int i)) (.d (.int j)) m = some (.d (f i j)) := rfl
@[simp] theorem gO_i (f : Int → Int → Bool) (g : Str → Str → Bool) (i j : Int) : gO f g (.d (.int i)) (.d (.int j)) m = some (.d (.bool (f i j))) := rfl
@[simp] theorem gO_s (f : Int → Int → Bool) (g : Str → Str → Bool) (i j : Str) : gO f g (.d (.str i)) (.d (.str j)) m = some (.d (.bool (g i j))) := rfl
@[simp] theorem gEq_d (x y : D) : gEq (.d x) (.d y) m = if SeqAt.shaped x && SeqAt.shaped y then some (.d (.bool (PyData.eqv x y))) else none := rfl
@[simp] theorem gNe_d (x y : D) : gNe (.d x) (.d y) m = if SeqAt.shaped x && SeqAt.shaped y then some (.d (.bool (!PyData.eqv x y))) else none := rfl
@[simp] theorem neg_i (i : Int) : gNeg (.d (.int i)) = some (.d (.int (-i))) := rfl
@[simp] theorem ix_t (xs : List D) (i : Int) : gIx (.d (.tuple xs)) (.d (.int i)) m = (atI xs i).map .d := rfl
@[simp] theorem ix_s (x : Str) (i : Int) : gIx (.d (.str x)) (.d (.int i)) m = if x.length ≤ sizeLine then (atI x.cps.toList i).map fun c => .d (.str ⟨#[c]⟩) else none := rfl
@[simp] theorem ix_l (xs : List D) (i : Int) : gIx (.d (.list xs)) (.d (.int i)) m = (atI xs i).map .d := rfl
@[simp] theorem ix_k (xs : List D) (i : Int) : gIx (.k xs) (.d (.int i)) m = (atI xs i).map .d := rfl
@[simp] theorem ix_c (j : Nat) (i : Int) : gIx (.c j) (.d (.int i)) m = match lstOf (.c j) m with | some xs => (atI xs i).map .d | none => none := rfl
@[simp] theorem sl_s (x : Str) (lo hi : Option Int) : gSl lo hi (.d (.str x)) m = if x.length ≤ sizeLine then some (.d (.str (cutS x lo hi))) else none := rfl
@[simp] theorem sl_t (x : List D) (lo hi : Option Int) : gSl lo hi (.d (.tuple x)) m = some (.d (.tuple (cutD x lo hi))) := rfl
@[simp] theorem sl_l (x : List D) (lo hi : Option Int) : gSl lo hi (.d (.list x)) m = some (.d (.list (cutD x lo hi))) := rfl
@[simp] theorem sl_k (x : List D) (lo hi : Option Int) : gSl lo hi (.k x) m = some (.d (.list (cutD x lo hi))) := rfl
@[simp] theorem len_s (x : Str) : gLen [.d (.str x)] m = if x.length ≤ sizeLine then some (.d (.int x.length)) else none := rfl
@[simp] theorem len_t (x : List D) : gLen [.d (.tuple x)] m = some (.d (.int x.length)) := rfl
@[simp] theorem len_l (x : List D) : gLen [.d (.list x)] m = some (.d (.int x.length)) := rfl
@[simp] theorem len_k (x : List D) : gLen [.k x] m = some (.d (.int x.length)) := rfl
@[simp] theorem len_c (i : Nat) : gLen [.c i] m = match lstOf (.c i) m with | some xs => some (.d (.int xs.length)) | none => none := rfl
@[simp] theorem abs_i (i : Int) : gAbs [.d (.int i)] m = some (.d (.int (if i < 0 then -i else i))) := rfl
@[simp] theorem str_i (i : Int) : gStr [.d (.int i)] m = if i.natAbs.log2 < 1920 then some (.d (.str (toString i))) else none := rfl
@[simp] theorem int_i (i : Int) : gInt [.d (.int i)] m = some (.d (.int i)) := rfl
@[simp] theorem int_b (b : Bool) : gInt [.d (.bool b)] m = some (.d (.int (if b then 1 else 0))) := rfl
@[simp] theorem tuple_t (x : List D) : gTuple [.d (.tuple x)] m = some (.d (.tuple x)) := rfl
@[simp] theorem tuple_l (x : List D) : gTuple [.d (.list x)] m = some (.d (.tuple x)) := rfl
@[simp] theorem tuple_c (i : Nat) : gTuple [.c i] m = match lstOf (.c i) m with | some xs => some (.d (.tuple xs)) | none => none := rfl
@[simp] theorem list_1 (w : W) : gList [w] m = seqOf w m := rfl
@[simp] theorem all_l (x : List D) : gAll [.d (.list x)] m = (allB x).map fun bs => .d (.bool (bs.all id)) := rfl
@[simp] theorem any_l (x : List D) : gAny [.d (.list x)] m = (allB x).map fun bs => .d (.bool (bs.any id)) := rfl
@[simp] theorem repr_1 (w : W) : gRepr [w] m = match datOf w m with | some x => if okShow x = true then some (.d (.str x.shown)) else none | none => none := rfl
@[simp] theorem inS_s (x z : Str) : gInS (.d (.str x)) (.d (.str z)) m = (match x.cps.toList with | [c] => some (.d (.bool (decide (c ∈ z.cps.toList)))) | _ => none) := rfl
@[simp] theorem mulT_s (x : Str) (n : Int) : gMulT (.d (.str x)) (.d (.int n)) m = if decide (0 ≤ n) && decide (n ≤ 1000) && decide (x.length ≤ 1000) then some (.d (.str (Txt.mul x n))) else none := rfl
@[simp] theorem gs_d (x : D) (xs : List D) : gsOf (.d x) xs = [] := rfl
@[simp] theorem gs_k (x xs : List D) : gsOf (.k x) xs = [] := rfl
@[simp] theorem grd_nil : grd [] m := fun _ h => nomatch h
end
theorem kt_int_none : (kitB "NoneType" "int" == some true) = false := by decide +kernel
theorem kt_int_bool : (kitB "bool" "int" == some true) = true := by decide +kernel
theorem kt_int_int : (kitB "int" "int" == some true) = true := by decide +kernel
theorem kt_int_str : (kitB "str" "int" == some true) = false := by decide +kernel
theorem kt_int_list : (kitB "list" "int" == some true) = false := by decide +kernel
theorem kt_int_tuple : (kitB "tuple" "int" == some true) = false := by decide +kernel
theorem kt_int_dict : (kitB "dict" "int" == some true) = false := by decide +kernel
theorem isT_int (x : D) : isT "int" x = match x with | .bool _ => true | .int _ => true | _ => false := by
  cases x with
  | none => exact kt_int_none
  | bool _ => exact kt_int_bool
  | int _ => exact kt_int_int
  | str _ => exact kt_int_str
  | list _ => exact kt_int_list
  | tuple _ => exact kt_int_tuple
  | dict _ => exact kt_int_dict
theorem kt_bool_none : (kitB "NoneType" "bool" == some true) = false := by decide +kernel
theorem kt_bool_bool : (kitB "bool" "bool" == some true) = true := by decide +kernel
theorem kt_bool_int : (kitB "int" "bool" == some true) = false := by decide +kernel
theorem kt_bool_str : (kitB "str" "bool" == some true) = false := by decide +kernel
theorem kt_bool_list : (kitB "list" "bool" == some true) = false := by decide +kernel
theorem kt_bool_tuple : (kitB "tuple" "bool" == some true) = false := by decide +kernel
theorem kt_bool_dict : (kitB "dict" "bool" == some true) = false := by decide +kernel
theorem isT_bool (x : D) : isT "bool" x = match x with | .bool _ => true | _ => false := by
  cases x with
  | none => exact kt_bool_none
  | bool _ => exact kt_bool_bool
  | int _ => exact kt_bool_int
  | str _ => exact kt_bool_str
  | list _ => exact kt_bool_list
  | tuple _ => exact kt_bool_tuple
  | dict _ => exact kt_bool_dict
theorem kt_str_none : (kitB "NoneType" "str" == some true) = false := by decide +kernel
theorem kt_str_bool : (kitB "bool" "str" == some true) = false := by decide +kernel
theorem kt_str_int : (kitB "int" "str" == some true) = false := by decide +kernel
theorem kt_str_str : (kitB "str" "str" == some true) = true := by decide +kernel
theorem kt_str_list : (kitB "list" "str" == some true) = false := by decide +kernel
theorem kt_str_tuple : (kitB "tuple" "str" == some true) = false := by decide +kernel
theorem kt_str_dict : (kitB "dict" "str" == some true) = false := by decide +kernel
theorem isT_str (x : D) : isT "str" x = match x with | .str _ => true | _ => false := by
  cases x with
  | none => exact kt_str_none
  | bool _ => exact kt_str_bool
  | int _ => exact kt_str_int
  | str _ => exact kt_str_str
  | list _ => exact kt_str_list
  | tuple _ => exact kt_str_tuple
  | dict _ => exact kt_str_dict
theorem kt_tuple_none : (kitB "NoneType" "tuple" == some true) = false := by decide +kernel
theorem kt_tuple_bool : (kitB "bool" "tuple" == some true) = false := by decide +kernel
theorem kt_tuple_int : (kitB "int" "tuple" == some true) = false := by decide +kernel
theorem kt_tuple_str : (kitB "str" "tuple" == some true) = false := by decide +kernel
theorem kt_tuple_list : (kitB "list" "tuple" == some true) = false := by decide +kernel
theorem kt_tuple_tuple : (kitB "tuple" "tuple" == some true) = true := by decide +kernel
theorem kt_tuple_dict : (kitB "dict" "tuple" == some true) = false := by decide +kernel
theorem isT_tuple (x : D) : isT "tuple" x = match x with | .tuple _ => true | _ => false := by
  cases x with
  | none => exact kt_tuple_none
  | bool _ => exact kt_tuple_bool
  | int _ => exact kt_tuple_int
  | str _ => exact kt_tuple_str
  | list _ => exact kt_tuple_list
  | tuple _ => exact kt_tuple_tuple
  | dict _ => exact kt_tuple_dict
theorem kt_list_none : (kitB "NoneType" "list" == some true) = false := by decide +kernel
theorem kt_list_bool : (kitB "bool" "list" == some true) = false := by decide +kernel
theorem kt_list_int : (kitB "int" "list" == some true) = false := by decide +kernel
theorem kt_list_str : (kitB "str" "list" == some true) = false := by decide +kernel
theorem kt_list_list : (kitB "list" "list" == some true) = true := by decide +kernel
theorem kt_list_tuple : (kitB "tuple" "list" == some true) = false := by decide +kernel
theorem kt_list_dict : (kitB "dict" "list" == some true) = false := by decide +kernel
theorem isT_list (x : D) : isT "list" x = match x with | .list _ => true | _ => false := by
  cases x with
  | none => exact kt_list_none
  | bool _ => exact kt_list_bool
  | int _ => exact kt_list_int
  | str _ => exact kt_list_str
  | list _ => exact kt_list_list
  | tuple _ => exact kt_list_tuple
  | dict _ => exact kt_list_dict
/-! ### loops -/
theorem forL_nil (tg : Fg) (b : Fs) (r : Rho) (m : Sto) : forL [] tg b [] r m = .nx r m := by simp [forL]
theorem forL_cons (tg : Fg) (b : Fs) (x : D) (xs : List D) (r : Rho) (m : Sto) : forL [] tg b (x :: xs) r m = match tg (.d x) r m with
    | some (r1, m1) => match b r1 m1 with
      | .nx r2 m2 => forL [] tg b xs r2 m2
      | .cnt r2 m2 => forL [] tg b xs r2 m2
      | .brk r2 m2 => .nx r2 m2
      | o => o
    | none => .bad := by
  simp only [forL, grd_nil, if_true]
  all_goals rfl
/-- what each turn keeps holds at the end -/
theorem forL_keeps {tg : Fg} {b : Fs} (P : List D → Rho → Sto → Prop) : ∀ (xs : List D) {r : Rho} {m : Sto}, P xs r m →
    (∀ x ys r m, P (x :: ys) r m → ∃ r1 m1, tg (.d x) r m = some (r1, m1) ∧ ∃ r2 m2, b r1 m1 = .nx r2 m2 ∧ P ys r2 m2) → ∃ r2 m2, forL [] tg b xs r m = .nx r2 m2 ∧ P [] r2 m2
  | [], r, m, h, _ => ⟨r, m, forL_nil tg b r m, h⟩
  | x :: xs, r, m, h, st => by
    obtain ⟨r1, m1, e1, r2, m2, e2, h2⟩ := st x xs r m h
    obtain ⟨r3, m3, e3, h3⟩ := forL_keeps P xs h2 st
    exact ⟨r3, m3, by rw [forL_cons, e1]; simp only [e2]; exact e3, h3⟩
theorem lcL_nil (tg : Fg) (t : Ft) (e : Fe) (r : Rho) (acc : List D) (m : Sto) : lcL [] tg t e r [] acc m = .ok acc m := by simp [lcL]
theorem lcL_cons (tg : Fg) (t : Ft) (e : Fe) (r : Rho) (x : D) (xs acc : List D) (m : Sto) : lcL [] tg t e r (x :: xs) acc m = match tg (.d x) r m with
    | some (r1, m1) => match t r1 m1 with
      | .ok true m2 => match e r1 m2 with
        | .ok w m3 => match frz w m3 with
          | some (d, m4) => if acc.length < sizeLine then lcL [] tg t e r xs (acc ++ [d]) m4 else .bad
          | none => .bad
        | _ => .bad
      | .ok false m2 => lcL [] tg t e r xs acc m2
      | _ => .bad
    | none => .bad := by
  simp only [lcL, grd_nil, if_true]
  all_goals rfl
/-- a comprehension whose items are told by f, without a change -/
theorem lcL_map {tg : Fg} {e : Fe} {r : Rho} {m : Sto} (f : D → D) : ∀ (xs acc : List D), (∀ x ∈ xs, ∃ r1, tg (.d x) r m = some (r1, m) ∧ e r1 m = .ok (.d (f x)) m) → acc.length + xs.length ≤ sizeLine → lcL [] tg tTru e r xs acc m = .ok (acc ++ xs.map f) m
  | [], acc, _, _ => by rw [lcL_nil, List.map_nil, List.append_nil]
  | x :: xs, acc, h, hz => by
    obtain ⟨r1, e1, e2⟩ := h x List.mem_cons_self
    simp only [List.length_cons] at hz
    rw [lcL_cons, e1]
    simp only [e_tTru, e2, frz_d]
    rw [if_pos (by omega), lcL_map f xs (acc ++ [f x]) (fun y hy => h y (List.mem_cons_of_mem _ hy)) (by simp only [List.length_append, List.length_singleton]; omega)]
    simp
/-- .. with a test -/
theorem lcL_filter {tg : Fg} {t : Ft} {e : Fe} {r : Rho} {m : Sto} (p : D → Bool) (f : D → D) : ∀ (xs acc : List D), (∀ x ∈ xs, ∃ r1, tg (.d x) r m = some (r1, m) ∧ t r1 m = .ok (p x) m ∧ (p x = true → e r1 m = .ok (.d (f x)) m)) → acc.length + xs.length ≤ sizeLine →
    lcL [] tg t e r xs acc m = .ok (acc ++ (xs.filter p).map f) m
  | [], acc, _, _ => by rw [lcL_nil]; simp
  | x :: xs, acc, h, hz => by
    obtain ⟨r1, e1, e2, e3⟩ := h x List.mem_cons_self
    simp only [List.length_cons] at hz
    rw [lcL_cons, e1]
    simp only [e2]
    cases hp : p x with
    | false =>
      simp only
      rw [lcL_filter p f xs acc (fun y hy => h y (List.mem_cons_of_mem _ hy)) (by omega)]
      simp [hp]
    | true =>
      simp only [e3 hp, frz_d]
      rw [if_pos (by omega), lcL_filter p f xs (acc ++ [f x]) (fun y hy => h y (List.mem_cons_of_mem _ hy)) (by simp only [List.length_append, List.length_singleton]; omega)]
      simp [hp]
/-- .. whose items change the store -/
theorem lcL_keeps {tg : Fg} {e : Fe} {r : Rho} (P : List D → List D → Sto → Prop) : ∀ (xs acc : List D) {m : Sto}, P xs acc m → acc.length + xs.length ≤ sizeLine →
    (∀ x ys acc m, P (x :: ys) acc m → ∃ r1 m1, tg (.d x) r m = some (r1, m1) ∧ ∃ d m2, e r1 m1 = .ok (.d d) m2 ∧ P ys (acc ++ [d]) m2) → ∃ ds m2, lcL [] tg tTru e r xs acc m = .ok ds m2 ∧ P [] ds m2
  | [], acc, m, h, _, _ => ⟨acc, m, lcL_nil tg tTru e r acc m, h⟩
  | x :: xs, acc, m, h, hz, st => by
    obtain ⟨r1, m1, e1, d, m2, e2, h2⟩ := st x xs acc m h
    simp only [List.length_cons] at hz
    obtain ⟨ds, m3, e3, h3⟩ := lcL_keeps P xs (acc ++ [d]) h2 (by simp only [List.length_append, List.length_singleton]; omega) st
    refine ⟨ds, m3, ?_, h3⟩
    rw [lcL_cons, e1]
    simp only [e_tTru, e2, frz_d]
    rw [if_pos (by omega)]
    exact e3
end DL

/-! DL: sizes of data, what may be shown and compared. -/
namespace DL
open PySem L2
mutual
def fine : D → Bool
  | .none => true
  | .bool _ => true
  | .int i => decide (i.natAbs.log2 < 1900)
  | .str x => PyData.canLay0 (.str x)
  | .list xs => fineA xs
  | .tuple xs => fineA xs
  | .dict _ => false
def fineA : List D → Bool
  | [] => true
  | x :: xs => fine x && fineA xs
end
mutual
/-- at least two more than its text has signs -/
def wt : D → Nat
  | .none => 8
  | .bool _ => 8
  | .int i => i.natAbs.log2 + 6
  | .str x => 10 * x.length + 6
  | .list xs => wtA xs + 5
  | .tuple xs => wtA xs + 6
  | .dict _ => 0
def wtA : List D → Nat
  | [] => 0
  | x :: xs => wt x + wtA xs
end
theorem fineA_app (xs ys : List D) : fineA (xs ++ ys) = (fineA xs && fineA ys) := by
  induction xs with
  | nil => simp [fineA]
  | cons x xs ih => simp only [List.cons_append, fineA, ih, Bool.and_assoc]
theorem wtA_app (xs ys : List D) : wtA (xs ++ ys) = wtA xs + wtA ys := by
  induction xs with
  | nil => simp [wtA]
  | cons x xs ih => simp only [List.cons_append, wtA, ih]; omega
theorem dpA_app (xs ys : List D) : PyData.depthAll (xs ++ ys) = max (PyData.depthAll xs) (PyData.depthAll ys) := by
  induction xs with
  | nil => simp [PyData.depthAll]
  | cons x xs ih => simp only [List.cons_append, PyData.depthAll, ih]; omega
theorem fineA_iff {xs : List D} : fineA xs = true ↔ ∀ x ∈ xs, fine x = true := by
  induction xs with
  | nil => simp [fineA]
  | cons x xs ih => simp [fineA, ih]
theorem dpA_le {xs : List D} {k : Nat} : PyData.depthAll xs ≤ k ↔ ∀ x ∈ xs, PyData.depth x ≤ k := by
  induction xs with
  | nil => simp [PyData.depthAll]
  | cons x xs ih => simp [PyData.depthAll, ← ih]; omega
theorem wtA_mem {xs : List D} {x : D} (h : x ∈ xs) : wt x ≤ wtA xs := by
  induction xs with
  | nil => cases h
  | cons y ys ih =>
    unfold wtA
    rcases List.mem_cons.mp h with e | h
    · subst e; omega
    · have := ih h; omega
theorem wtA_take (xs : List D) (n : Nat) : wtA (xs.take n) ≤ wtA xs := by
  have e := wtA_app (xs.take n) (xs.drop n)
  rw [List.take_append_drop] at e
  omega
theorem wtA_drop (xs : List D) (n : Nat) : wtA (xs.drop n) ≤ wtA xs := by
  have e := wtA_app (xs.take n) (xs.drop n)
  rw [List.take_append_drop] at e
  omega
theorem piled_app1 (t : Str) (ts : List Str) : piled (t :: ts) = (t.length + 2) + piled ts := piled_cons t ts
mutual
theorem fine_lay : ∀ d : D, fine d = true → PyData.canLay0 d = true
  | .none, _ => by simp [PyData.canLay0]
  | .bool _, _ => by simp [PyData.canLay0]
  | .int _, _ => by simp [PyData.canLay0]
  | .str x, h => by simpa [fine] using h
  | .list xs, h => by simp only [PyData.canLay0]; exact fineA_lay xs (by simpa [fine] using h)
  | .tuple xs, h => by simp only [PyData.canLay0]; exact fineA_lay xs (by simpa [fine] using h)
  | .dict _, h => by simp [fine] at h
theorem fineA_lay : ∀ d : List D, fineA d = true → PyData.canLayAll0 d = true
  | [], _ => by simp [PyData.canLayAll0]
  | x :: xs, h => by
    simp only [fineA, Bool.and_eq_true] at h
    simp [PyData.canLayAll0, fine_lay x h.1, fineA_lay xs h.2]
end
mutual
theorem fine_show : ∀ d : D, fine d = true → d.showable = true
  | .none, _ => by simp [PyData.showable]
  | .bool _, _ => by simp [PyData.showable]
  | .int i, h => by
    simp only [fine, decide_eq_true_eq] at h
    simp only [PyData.showable, decide_eq_true_eq]
    omega
  | .str x, h => by simp [PyData.showable]
  | .list xs, h => by simp only [PyData.showable]; exact fineA_show xs (by simpa [fine] using h)
  | .tuple xs, h => by simp only [PyData.showable]; exact fineA_show xs (by simpa [fine] using h)
  | .dict _, h => by simp [fine] at h
theorem fineA_show : ∀ d : List D, fineA d = true → PyData.showableAll d = true
  | [], _ => by simp [PyData.showableAll]
  | x :: xs, h => by
    simp only [fineA, Bool.and_eq_true] at h
    simp [PyData.showableAll, fine_show x h.1, fineA_show xs h.2]
end
mutual
theorem shown_len : ∀ d : D, fine d = true → d.shown.length + 2 ≤ wt d
  | .none, _ => by simp only [PyData.shown, wt]; decide
  | .bool b, _ => by cases b <;> (simp only [PyData.shown, wt]; decide)
  | .int i, h => by
    simp only [PyData.shown, wt]
    have e := int_text_length_le (a := i) (k := i.natAbs.log2 + 1) (by omega) (by omega)
    have e2 : (Str.ofString (toString i)).length = (toString i).length := ofString_length _
    show (Str.ofString (toString i)).length + 2 ≤ _
    omega
  | .str x, h => by
    simp only [PyData.shown, wt]
    have hx : ∀ c ∈ x.cps.toList, c < 16 ^ 8 := fun c hc => by
      simp only [fine, PyData.canLay0, PyData.strOk] at h
      have h2 := (Array.all_eq_true_iff_forall_mem.mp h) c (Array.mem_toList_iff.mp hc)
      have h3 : c < 0x110000 := by simpa using h2
      exact Nat.lt_trans h3 (by decide)
    have := StrLaws.reprText_len x hx
    omega
  | .list xs, h => by
    simp only [PyData.shown, wt]
    have ih := shownA_len xs (by simpa [fine] using h)
    rw [listText_eq_join]
    have e1 : ((("[" : String) : Str)).length = 1 := rfl
    have e2 : ((("]" : String) : Str)).length = 1 := rfl
    rw [strLen_append, strLen_append, e1, e2]
    by_cases hn : PyData.shownAll xs = []
    · rw [hn]
      have e3 : (Str.join ((", " : String) : Str) []).length = 0 := rfl
      rw [e3]
      omega
    · have e3 := join_length_add (PyData.shownAll xs) hn
      omega
  | .tuple xs, h => by
    simp only [PyData.shown, wt]
    have ih := shownA_len xs (by simpa [fine] using h)
    unfold tupleText
    have e1 : ((("(" : String) : Str)).length = 1 := rfl
    have e2 : ((if (PyData.shownAll xs).length == 1 then ",)" else ")" : String) : Str).length ≤ 2 := by
      split
      · exact Nat.le_refl 2
      · exact Nat.le_succ 1
    rw [strLen_append, strLen_append, e1]
    by_cases hn : PyData.shownAll xs = []
    · rw [hn] at e2 ⊢
      have e3 : (Str.join ((", " : String) : Str) []).length = 0 := rfl
      rw [e3]
      omega
    · have e3 := join_length_add (PyData.shownAll xs) hn
      omega
  | .dict _, h => by simp [fine] at h
theorem shownA_len : ∀ d : List D, fineA d = true → piled (PyData.shownAll d) ≤ wtA d
  | [], _ => by simp [PyData.shownAll, wtA, piled]
  | x :: xs, h => by
    simp only [fineA, Bool.and_eq_true] at h
    have h1 := shown_len x h.1
    have h2 := shownA_len xs h.2
    simp only [PyData.shownAll, wtA, piled_cons]
    omega
end
/-- data that may be shown, compared, at most so deep, so long -/
structure Good (k n : Nat) (d : D) : Prop where
  fin : fine d = true
  dep : PyData.depth d ≤ k
  wgt : wt d ≤ n
theorem Good.show {k n : Nat} {d : D} (h : Good k n d) (hk : k ≤ 64) (hn : n ≤ 16777216) : okShow d = true := by
  unfold okShow
  have h1 := shown_len d h.fin
  have h2 := h.wgt
  have h3 := h.dep
  have e : (sizeLine : Nat) = 16777216 := sizeLine_eq
  simp only [fine_show d h.fin, PyData.hasDict_of_canLay d (fine_lay d h.fin), Bool.true_and, Bool.not_false, Bool.and_eq_true, decide_eq_true_eq]
  omega
theorem Good.shaped {k n : Nat} {d : D} (h : Good k n d) (hk : k ≤ 64) : SeqAt.shaped d = true := by
  unfold SeqAt.shaped
  have h3 := h.dep
  simp only [fine_lay d h.fin, Bool.true_and, decide_eq_true_eq]
  omega
theorem Good.mono {k n k' n' : Nat} {d : D} (h : Good k n d) (hk : k ≤ k') (hn : n ≤ n') : Good k' n' d := ⟨h.fin, Nat.le_trans h.dep hk, Nat.le_trans h.wgt hn⟩
theorem shaped_list {xs : List D} (h : ∀ x ∈ xs, fine x = true ∧ PyData.depth x ≤ 63) : SeqAt.shaped (.list xs) = true := by
  unfold SeqAt.shaped
  have h1 : fineA xs = true := fineA_iff.mpr fun x hx => (h x hx).1
  have h2 : PyData.depthAll xs ≤ 63 := dpA_le.mpr fun x hx => (h x hx).2
  have e1 : PyData.canLay0 (.list xs) = true := by simp only [PyData.canLay0]; exact fineA_lay xs h1
  have e2 : PyData.depth (.list xs) = PyData.depthAll xs + 1 := by simp only [PyData.depth]
  rw [e1, e2, Bool.true_and, decide_eq_true_eq]
  omega
theorem shaped_ints (ns : List Int) : SeqAt.shaped (.list (ns.map PyData.int)) = true := by
  unfold SeqAt.shaped
  have h1 : PyData.canLayAll0 (ns.map PyData.int) = true := by
    induction ns with
    | nil => simp [PyData.canLayAll0]
    | cons n ns ih => simp [PyData.canLayAll0, PyData.canLay0, ih]
  have h2 : PyData.depthAll (ns.map PyData.int) ≤ 0 := dpA_le.mpr fun x hx => by
    obtain ⟨i, _, rfl⟩ := List.mem_map.mp hx
    simp [PyData.depth]
  have e1 : PyData.canLay0 (.list (ns.map PyData.int)) = true := by simp only [PyData.canLay0]; exact h1
  have e2 : PyData.depth (.list (ns.map PyData.int)) = PyData.depthAll (ns.map PyData.int) + 1 := by simp only [PyData.depth]
  rw [e1, e2, Bool.true_and, decide_eq_true_eq]
  omega
theorem shaped_nil : SeqAt.shaped (.list []) = true := by decide +kernel
theorem shaped_unit : SeqAt.shaped (.tuple []) = true := by decide +kernel
theorem shaped_int (i : Int) : SeqAt.shaped (.int i) = true := by simp [SeqAt.shaped, PyData.canLay0, PyData.depth]
theorem shaped_bool (i : Bool) : SeqAt.shaped (.bool i) = true := by simp [SeqAt.shaped, PyData.canLay0, PyData.depth]
theorem shaped_str {x : Str} (h : fine (.str x) = true) : SeqAt.shaped (.str x) = true := by
  have := fine_lay _ h
  simp [SeqAt.shaped, this, PyData.depth]
theorem log2_lt {n k : Nat} (hk : 0 < k) (h : n < 2 ^ k) : n.log2 < k := by
  by_cases h0 : n = 0
  · subst h0; simpa using hk
  · exact (Nat.log2_lt h0).mpr h
theorem good_int {i : Int} {j : Nat} (hj : 0 < j) (hj2 : j ≤ 1900) (h : i.natAbs < 2 ^ j) : Good 0 (j + 6) (.int i) := by
  have e := log2_lt hj h
  refine ⟨by simp only [fine, decide_eq_true_eq]; omega, by simp [PyData.depth], by simp only [wt]; omega⟩
theorem line_eq : (sizeLine : Nat) = 16777216 := sizeLine_eq
/-! ### draws: facts of Python's // and % -/
theorem fmod_lt {a b : Int} (hb : 0 < b) : 0 ≤ a.fmod b ∧ a.fmod b < b := by
  rw [Int.fmod_eq_emod_of_nonneg _ (Int.le_of_lt hb)]
  exact ⟨Int.emod_nonneg _ (by omega), Int.emod_lt_of_pos _ hb⟩
theorem atI_lt {α : Type} {xs : List α} {i : Int} (h0 : 0 ≤ i) (h1 : i < xs.length) : ∃ v, atI xs i = some v ∧ v ∈ xs := by
  have hi : i.toNat < xs.length := by omega
  refine ⟨xs[i.toNat], ?_, List.getElem_mem hi⟩
  unfold atI ixN
  rw [if_pos h0, if_pos h1]
  show xs[i.toNat]? = _
  exact List.getElem?_eq_getElem hi
@[simp] theorem atI_0 {α : Type} (x : α) (xs : List α) : atI (x :: xs) 0 = some x := atI_nat (j := 0) rfl
@[simp] theorem atI_1 {α : Type} (x y : α) (xs : List α) : atI (x :: y :: xs) 1 = some y := atI_nat (j := 1) rfl
@[simp] theorem atI_2 {α : Type} (x y z : α) (xs : List α) : atI (x :: y :: z :: xs) 2 = some z := atI_nat (j := 2) rfl
@[simp] theorem atI_3 {α : Type} (x y z u : α) (xs : List α) : atI (x :: y :: z :: u :: xs) 3 = some u := atI_nat (j := 3) rfl
@[simp] theorem atI_4 {α : Type} (x y z u v : α) (xs : List α) : atI (x :: y :: z :: u :: v :: xs) 4 = some v := atI_nat (j := 4) rfl
@[simp] theorem ixN_4_0 : ixN 4 0 = some 0 := by decide
@[simp] theorem ixN_4_1 : ixN 4 1 = some 1 := by decide
@[simp] theorem ixN_4_2 : ixN 4 2 = some 2 := by decide
@[simp] theorem ixN_4_3 : ixN 4 3 = some 3 := by decide
theorem atI_map {α β : Type} (f : α → β) (xs : List α) (i : Int) : atI (xs.map f) i = (atI xs i).map f := by
  unfold atI
  rw [List.length_map]
  cases ixN xs.length i with
  | none => rfl
  | some j => simp
end DL

/-! DL: texts and lists that may be shown. -/
namespace DL
open PySem L2 PyProof.Rows
theorem fine_str {x : Str} : fine (.str x) = true ↔ ∀ c ∈ x.cps.toList, c < 1114112 := by
  simp only [fine, PyData.canLay0, PyData.strOk]
  rw [Array.all_eq_true_iff_forall_mem]
  constructor
  · intro h c hc
    simpa using h c (Array.mem_toList_iff.mp hc)
  · intro h c hc
    have := h c (Array.mem_toList_iff.mpr hc)
    simpa using this
theorem cps_add (x y : Str) : (x ++ y).cps.toList = x.cps.toList ++ y.cps.toList := by
  show (x.cps ++ y.cps).toList = _
  simp
theorem fine_add {x y : Str} (hx : fine (.str x) = true) (hy : fine (.str y) = true) : fine (.str (x ++ y)) = true := by
  rw [fine_str] at *
  intro c hc
  rw [cps_add] at hc
  rcases List.mem_append.mp hc with h | h
  · exact hx c h
  · exact hy c h
theorem fine_one {c : Nat} (h : c < 1114112) : fine (.str ⟨#[c]⟩) = true := by
  rw [fine_str]
  intro d hd
  have : d = c := by simpa using hd
  omega
theorem fine_mem {x : Str} {c : Nat} (h : fine (.str x) = true) (hc : c ∈ x.cps.toList) : c < 1114112 := fine_str.mp h c hc
theorem fine_join {s : Str} (hs : fine (.str s) = true) : ∀ {ys : List Str}, (∀ y ∈ ys, fine (.str y) = true) → fine (.str (Str.join s ys)) = true
  | [], _ => by simp only [Str.join]; decide +kernel
  | [x], h => h x List.mem_cons_self
  | x :: y :: r, h => by
    simp only [Str.join]
    exact fine_add (fine_add (h x List.mem_cons_self) hs) (fine_join hs fun z hz => h z (List.mem_cons_of_mem _ hz))
theorem len_join {s : Str} {n : Nat} : ∀ {ys : List Str}, (∀ y ∈ ys, y.length + s.length ≤ n) → (Str.join s ys).length ≤ n * ys.length
  | [], _ => by simp only [Str.join]; exact Nat.zero_le _
  | [x], h => by have := h x List.mem_cons_self; simp only [Str.join, List.length_singleton]; omega
  | x :: y :: r, h => by
    have h1 := h x List.mem_cons_self
    have h2 := len_join (s := s) (n := n) (ys := y :: r) fun z hz => h z (List.mem_cons_of_mem _ hz)
    simp only [Str.join, strLen_append, List.length_cons] at h2 ⊢
    rw [Nat.mul_add n (r.length + 1) 1]
    omega
theorem join_is (s : Str) (ys : List Str) : Txt.join s ys = Str.join s ys := StrLaws.glued_eq_join s ys
theorem fine_text (i : Int) : fine (.str (Str.ofString (toString i))) = true := by
  rw [fine_str]
  intro c hc
  have := fun h => int_text_free' c h i hc
  by_cases h : c < 1114112
  · exact h
  · exact absurd (this ⟨by omega, by omega⟩) id
theorem good_str {x : Str} {n : Nat} (h : fine (.str x) = true) (hn : x.length ≤ n) : Good 0 (10 * n + 6) (.str x) := ⟨h, by simp [PyData.depth], by simp only [wt]; omega⟩
theorem good_text {i : Int} {j : Nat} (hj : 0 < j) (h : i.natAbs < 2 ^ j) : Good 0 (10 * (j + 1) + 6) (.str (Str.ofString (toString i))) := by
  refine good_str (fine_text i) ?_
  rw [PySem.ofString_length]
  exact int_text_length_le hj (log2_lt hj h)
structure GoodA (k n : Nat) (xs : List D) : Prop where
  fin : fineA xs = true
  dep : PyData.depthAll xs ≤ k
  wgt : wtA xs ≤ n
theorem GoodA.nil {k : Nat} : GoodA k 0 [] := ⟨by simp [fineA], by simp [PyData.depthAll], by simp [wtA]⟩
theorem GoodA.cons {k a b : Nat} {x : D} {xs : List D} (h : Good k a x) (hs : GoodA k b xs) : GoodA k (a + b) (x :: xs) :=
  ⟨by simp [fineA, h.fin, hs.fin], by have := h.dep; have := hs.dep; simp only [PyData.depthAll]; omega, by have := h.wgt; have := hs.wgt; simp only [wtA]; omega⟩
theorem GoodA.one {k a : Nat} {x : D} (h : Good k a x) : GoodA k a [x] := (GoodA.cons h .nil)
theorem GoodA.app {k a b : Nat} {xs ys : List D} (h : GoodA k a xs) (hs : GoodA k b ys) : GoodA k (a + b) (xs ++ ys) :=
  ⟨by rw [fineA_app, h.fin, hs.fin]; rfl, by rw [dpA_app]; have := h.dep; have := hs.dep; omega, by rw [wtA_app]; have := h.wgt; have := hs.wgt; omega⟩
theorem GoodA.mono {k n k' n' : Nat} {d : List D} (h : GoodA k n d) (hk : k ≤ k') (hn : n ≤ n') : GoodA k' n' d := ⟨h.fin, Nat.le_trans h.dep hk, Nat.le_trans h.wgt hn⟩
theorem GoodA.mem {k n : Nat} {x : D} {xs : List D} (h : GoodA k n xs) (hx : x ∈ xs) : Good k n x :=
  ⟨fineA_iff.mp h.fin x hx, dpA_le.mp h.dep x hx, Nat.le_trans (wtA_mem hx) h.wgt⟩
theorem GoodA.tup {k n : Nat} {xs : List D} (h : GoodA k n xs) : Good (k + 1) (n + 6) (.tuple xs) := ⟨by simp [fine, h.fin], by have := h.dep; simp only [PyData.depth]; omega, by have := h.wgt; simp only [wt]; omega⟩
theorem GoodA.lst {k n : Nat} {xs : List D} (h : GoodA k n xs) : Good (k + 1) (n + 6) (.list xs) := ⟨by simp [fine, h.fin], by have := h.dep; simp only [PyData.depth]; omega, by have := h.wgt; simp only [wt]; omega⟩
theorem Good.un {k n : Nat} {xs : List D} (h : Good k n (.tuple xs)) : GoodA (k - 1) (n - 6) xs := by
  have h1 := h.fin
  have h2 := h.dep
  have h3 := h.wgt
  simp only [fine] at h1
  simp only [PyData.depth] at h2
  simp only [wt] at h3
  exact ⟨h1, by omega, by omega⟩
theorem Good.unl {k n : Nat} {xs : List D} (h : Good k n (.list xs)) : GoodA (k - 1) (n - 5) xs := by
  have h1 := h.fin
  have h2 := h.dep
  have h3 := h.wgt
  simp only [fine] at h1
  simp only [PyData.depth] at h2
  simp only [wt] at h3
  exact ⟨h1, by omega, by omega⟩
theorem Good.pos {k n : Nat} {x : D} (h : Good k n x) : 2 ≤ n := by
  have := h.wgt
  have := shown_len x h.fin
  omega
theorem GoodA.len {k n : Nat} : ∀ {xs : List D}, GoodA k n xs → 2 * xs.length ≤ n
  | [], _ => Nat.zero_le _
  | x :: xs, h => by
    have h1 := h.fin
    have h2 := h.dep
    have h3 := h.wgt
    simp only [fineA, Bool.and_eq_true] at h1
    simp only [PyData.depthAll] at h2
    simp only [wtA] at h3
    have := shown_len x h1.1
    have ih := GoodA.len (xs := xs) (k := k) (n := n - wt x) ⟨h1.2, by omega, by omega⟩
    simp only [List.length_cons]
    omega
theorem GoodA.cut {k n : Nat} {xs : List D} (h : GoodA k n xs) (lo hi : Option Int) : GoodA k n (cutD xs lo hi) := by
  unfold cutD
  refine ⟨fineA_iff.mpr fun y hy => ?_, dpA_le.mpr fun y hy => ?_, ?_⟩
  · exact fineA_iff.mp h.fin y (List.mem_of_mem_drop (List.mem_of_mem_take hy))
  · exact dpA_le.mp h.dep y (List.mem_of_mem_drop (List.mem_of_mem_take hy))
  · exact Nat.le_trans (wtA_take _ _) (Nat.le_trans (wtA_drop _ _) h.wgt)
theorem GoodA.set {k n : Nat} {x : D} : ∀ {xs : List D}, GoodA k n xs → Good k n x → ∀ i, GoodA k (n + n) (xs.set i x)
  | xs, h, hx, i => by
    refine ⟨fineA_iff.mpr fun y hy => ?_, dpA_le.mpr fun y hy => ?_, ?_⟩
    · rcases List.mem_or_eq_of_mem_set hy with e | e
      · exact fineA_iff.mp h.fin y e
      · exact e ▸ hx.fin
    · rcases List.mem_or_eq_of_mem_set hy with e | e
      · exact dpA_le.mp h.dep y e
      · exact e ▸ hx.dep
    · have : ∀ (xs : List D) (i : Nat), wtA (xs.set i x) ≤ wtA xs + wt x := by
        intro xs
        induction xs with
        | nil => intro i; simp [wtA]
        | cons y ys ih =>
          intro i
          cases i with
          | zero => simp only [List.set_cons_zero, wtA]; omega
          | succ i => have := ih i; simp only [List.set_cons_succ, wtA]; omega
      have := this xs i
      have := h.wgt
      have := hx.wgt
      omega
theorem good_none : Good 0 8 .none := ⟨by simp [fine], by simp [PyData.depth], by simp [wt]⟩
theorem good_bool (b : Bool) : Good 0 8 (.bool b) := ⟨by simp [fine], by simp [PyData.depth], by simp [wt]⟩
theorem Good.tup0 : Good 1 6 (.tuple []) := ⟨by simp [fine, fineA], by simp [PyData.depth, PyData.depthAll], by simp [wt, wtA]⟩
theorem atI_mem {α : Type} {xs : List α} {i : Int} {v : α} (h : atI xs i = some v) : v ∈ xs := by
  unfold atI at h
  cases e : ixN xs.length i with
  | none => rw [e] at h; cases h
  | some j => rw [e] at h; exact List.mem_of_getElem? h
/-- a fact of a list's cell that has just been made -/
@[simp] theorem get_last (m : Sto) (c : Cell) : (m ++ [c])[m.length]? = some c := by simp
@[simp] theorem set_last (m : Sto) (c d : Cell) : (m ++ [c]).set m.length d = m ++ [d] := by simp
/-! ### one look at what a datum is worth -/
def goodB (k n : Nat) (d : D) : Bool := fine d && (decide (PyData.depth d ≤ k) && decide (wt d ≤ n))
theorem good_of {k n : Nat} {d : D} (h : goodB k n d = true) : Good k n d := by
  simp only [goodB, Bool.and_eq_true, decide_eq_true_eq] at h
  exact ⟨h.1, h.2.1, h.2.2⟩
end DL

/-! DL: a repr is a text that may be compared. -/
namespace DL
open PySem L2 Builtin.Str
theorem char_lt (c : Char) : c.toNat < 1114112 := by
  rcases c.valid with h | h
  · have : c.toNat < 55296 := h
    omega
  · exact h.2
theorem reprChar_lt {q c : Nat} (hq : q < 1114112) (hc : c < 1114112) : ∀ x ∈ reprChar q c, x < 1114112 := by
  intro x hx
  unfold reprChar at hx
  dsimp only at hx
  repeat' split at hx
  all_goals simp only [List.mem_cons, List.not_mem_nil, or_false, List.mem_append, List.mem_replicate, List.mem_map] at hx
  all_goals first
    | omega
    | (rcases hx with (h | h) | (h | ⟨d, _, h⟩)
       · omega
       · omega
       · omega
       · have := char_lt d
         omega)
theorem foldl_repr_lt {q : Nat} (hq : q < 1114112) : ∀ (l : List Nat) (acc : Array Nat), (∀ c ∈ acc.toList, c < 1114112) → (∀ c ∈ l, c < 1114112) → ∀ c ∈ (l.foldl (fun out c => out ++ (reprChar q c).toArray) acc).toList, c < 1114112
  | [], acc, h, _ => h
  | a :: r, acc, h, hl => by
    simp only [List.foldl_cons]
    refine foldl_repr_lt hq r _ ?_ fun c hc => hl c (List.mem_cons_of_mem _ hc)
    intro c hc
    simp only [Array.toList_append, List.mem_append] at hc
    rcases hc with hc | hc
    · exact h c hc
    · exact reprChar_lt hq (hl a List.mem_cons_self) c hc
theorem quote_lt (x : Str) : reprQuote x < 1114112 := by
  unfold reprQuote
  split <;> decide
theorem fine_repr {x : Str} (h : fine (.str x) = true) : fine (.str (reprText x)) = true := by
  rw [fine_str] at *
  intro c hc
  have e : (reprText x).cps = (x.cps.foldl (fun out c => out ++ (reprChar (reprQuote x) c).toArray) #[reprQuote x]).push (reprQuote x) := rfl
  rw [e, Array.toList_push, ← Array.foldl_toList] at hc
  rcases List.mem_append.mp hc with hc | hc
  · exact foldl_repr_lt (quote_lt x) _ _ (by intro d hd; have : d = reprQuote x := by simpa using hd
                                             rw [this]; exact quote_lt x) h c hc
  · have : c = reprQuote x := by simpa using hc
    rw [this]; exact quote_lt x
mutual
theorem fine_shown : ∀ d : D, fine d = true → fine (.str d.shown) = true
  | .none, _ => by simp only [PyData.shown]; decide +kernel
  | .bool b, _ => by cases b <;> (simp only [PyData.shown]; decide +kernel)
  | .int i, _ => by simp only [PyData.shown]; exact fine_text i
  | .str x, h => by simp only [PyData.shown]; exact fine_repr h
  | .list xs, h => by
    simp only [PyData.shown]
    have ih := fineA_shown xs (by simpa [fine] using h)
    rw [listText_eq_join]
    exact fine_add (fine_add (by decide +kernel) (fine_join (by decide +kernel) ih)) (by decide +kernel)
  | .tuple xs, h => by
    simp only [PyData.shown]
    have ih := fineA_shown xs (by simpa [fine] using h)
    unfold tupleText
    refine fine_add (fine_add (by decide +kernel) (fine_join (by decide +kernel) ih)) ?_
    split <;> decide +kernel
  | .dict _, h => by simp [fine] at h
theorem fineA_shown : ∀ d : List D, fineA d = true → ∀ y ∈ PyData.shownAll d, fine (.str y) = true
  | [], _ => by simp [PyData.shownAll]
  | x :: xs, h => by
    simp only [fineA, Bool.and_eq_true] at h
    have h1 := fine_shown x h.1
    have h2 := fineA_shown xs h.2
    simp only [PyData.shownAll]
    intro y hy
    rcases List.mem_cons.mp hy with rfl | hy
    · exact h1
    · exact h2 y hy
end
theorem Good.text {k n : Nat} {d : D} (h : Good k n d) : Good 0 (10 * n + 6) (.str d.shown) := good_str (fine_shown d h.fin) (by have := shown_len d h.fin; have := h.wgt; omega)
mutual
theorem eqv_refl : ∀ d : D, fine d = true → PyData.eqv d d = true
  | .none, _ => by simp [PyData.eqv]
  | .bool b, _ => by simp [PyData.eqv]
  | .int i, _ => by simp [PyData.eqv]
  | .str x, h => by simp [PyData.eqv]
  | .list xs, h => by simp only [PyData.eqv]; exact eqvA_refl xs (by simpa [fine] using h)
  | .tuple xs, h => by simp only [PyData.eqv]; exact eqvA_refl xs (by simpa [fine] using h)
  | .dict _, h => by simp [fine] at h
theorem eqvA_refl : ∀ d : List D, fineA d = true → PyData.eqvAll d d = true
  | [], _ => by simp [PyData.eqvAll]
  | x :: xs, h => by
    simp only [fineA, Bool.and_eq_true] at h
    simp [PyData.eqvAll, eqv_refl x h.1, eqvA_refl xs h.2]
end
end DL

/-! DL: more rules. -/
namespace DL
open PySem L2 PyProof.Rows
/-! ### // by any divisor -/
def CDivA (_ j : Int) : Prop := j ≠ 0 ∧ j.natAbs.log2 < 9000
theorem or_divA {X : Cx} : OpR X (binaryOp .FloorDiv) (rI CDivA fun i j => .int (i.fdiv j)) := opI fun _ _ _ _ _ _ _ hc q => floordiv_int hc.1 q (.inl (PyProof.noPylong_of_log2 hc.2))
abbrev gDivA := gI (fun _ j => decide (j ≠ 0) && decide (j.natAbs.log2 < 9000)) fun i j => .int (i.fdiv j)
theorem od_divA {K : PySem.W.Frag} : OpD K (rI CDivA fun i j => V.int (i.fdiv j)) gDivA := od_I (fun _ _ h => by
  have := Bool.and_eq_true_iff.mp h
  exact ⟨of_decide_eq_true this.1, of_decide_eq_true this.2⟩) fun _ _ _ => .int _
/-! ### list + list as a new list -/
def dCat (f f' : Fe) : Fl := fun r m => (f r m).bind fun x m1 => (f' r m1).bind fun y m2 => match datOf x m2, datOf y m2 with
  | some (.list xs), some (.list ys) => if xs.length + ys.length ≤ sizeLine then .ok (xs ++ ys) m2 else .bad
  | _, _ => .bad
section
variable {X : Cx} {Wx : WX} {pos : Pos} {a b : Expr} {fa fb : Fe}
theorem df_cat (ha : DE X Wx a fa) (hb : DE X Wx b fb) : DF X Wx (.BinOp a .Add b pos) (dCat fa fb) := pe_weak (pe_op (op_cat (X := X)) ha hb) fun s H Q q => by
  obtain ⟨ρ, ad, m, F, he, hA, hp⟩ := q
  refine ⟨_, _, _, _, he, hA, Post.mono (Post.bind hp) (fun x m1 ad1 F1 H1 e1 ha1 q0 u ru => ?_) fun _ _ _ _ _ _ _ _ z => z⟩
  obtain ⟨_, _, h1⟩ := q0
  refine ⟨_, _, _, _, he.ext e1, ha1, Post.mono (Post.bind h1) (fun y m2 ad2 F2 H2 e2 ha2 q0 v rv => ?_) fun _ _ _ _ _ _ _ _ z => z⟩
  obtain ⟨_, _, h2⟩ := q0
  cases ex : datOf x m2 with
  | none => simp only [ex] at h2; exact h2.elim
  | some dx =>
    cases dx with
    | list xs =>
      cases ey : datOf y m2 with
      | none => simp only [ex, ey] at h2; exact h2.elim
      | some dy =>
        cases dy with
        | list ys =>
          simp only [ex, ey] at h2
          by_cases hz : xs.length + ys.length ≤ sizeLine
          · rw [if_pos hz] at h2
            obtain ⟨p, vs, rfl, q1, s1⟩ := ha2.lst' (ru.ext e2) ex
            obtain ⟨p', ws, rfl, q2, s2⟩ := ha2.lst' rv ey
            refine ⟨_, _, _, _, rfl, rfl, q1, q2, by rw [s1.len, s2.len]; exact hz, fun p hp' => ?_⟩
            obtain ⟨a3, x3⟩ := ha2.room (o := .lst (vs ++ ws)) hp'
            obtain ⟨np, fp⟩ := ha2.out hp'
            exact h2 _ _ _ x3 a3 p _ ((e1.trans e2).was hp' np) upd_same fp np (s1.app s2)
          · rw [if_neg hz] at h2; exact h2.elim
        | none => simp only [ex, ey] at h2; exact h2.elim
        | bool _ => simp only [ex, ey] at h2; exact h2.elim
        | int _ => simp only [ex, ey] at h2; exact h2.elim
        | str _ => simp only [ex, ey] at h2; exact h2.elim
        | tuple _ => simp only [ex, ey] at h2; exact h2.elim
        | dict _ => simp only [ex, ey] at h2; exact h2.elim
    | none => simp only [ex] at h2; exact h2.elim
    | bool _ => simp only [ex] at h2; exact h2.elim
    | int _ => simp only [ex] at h2; exact h2.elim
    | str _ => simp only [ex] at h2; exact h2.elim
    | tuple _ => simp only [ex] at h2; exact h2.elim
    | dict _ => simp only [ex] at h2; exact h2.elim
end
@[simp] theorem e_cat (f f' : Fe) (r : Rho) (m : Sto) : dCat f f' r m = (f r m).bind fun x m1 => (f' r m1).bind fun y m2 => match datOf x m2, datOf y m2 with
  | some (.list xs), some (.list ys) => if xs.length + ys.length ≤ sizeLine then .ok (xs ++ ys) m2 else .bad
  | _, _ => .bad := rfl
/-! ### a, b = a list -/
def gU (n : Nat) (gs : List W → Rho → Sto → Option (Rho × Sto)) : Fg := fun w r m => match lstOf w m with
  | some ds => if ds.length = n then gs (ds.map .d) r m else none
  | none => none
section
variable {X : Cx} {pos : Pos} {es : List Expr} {sl : List Nat}
theorem dg_unl {k n : Nat} {gs : List W → Rho → Sto → Option (Rho × Sto)} (hc : X.calm = true) (h : DGs X sl es gs) (hn : (assignEach es X.env).length = n := by rfl) (hst : (assignEach es X.env).findIdx? (·.1) = none := by rfl) :
    DG X sl (.Tuple es k pos) (gU n gs) := pg_weak (pg_unl hc h hn hst) fun v s H q z => by
  obtain ⟨w, r, ad, m, F, h1, h2, h3, h4⟩ := z
  unfold gU at h4
  cases e : lstOf w m with
  | none => simp only [e] at h4
  | some ds =>
    simp only [e] at h4
    obtain ⟨a, vs, rfl, q1, s1⟩ := h3.lst h1 e
    by_cases hl : ds.length = n
    · simp only [if_pos hl] at h4
      exact ⟨_, _, rfl, q1, by rw [s1.len]; exact hl, _, r, ad, m, F, rws_of s1, h2, h3, h4⟩
    · simp only [if_neg hl] at h4
end
@[simp] theorem t_u (n : Nat) (h : List W → Rho → Sto → Option (Rho × Sto)) (w : W) (r : Rho) (m : Sto) : gU n h w r m = match lstOf w m with
  | some ds => if ds.length = n then h (ds.map .d) r m else none
  | none => none := rfl
/-! ### methods that only look -/
def MtRd (K : PySem.W.Frag) (r : V → List V → Hp → VK → Prop) (g : W → List W → Sto → Option W) : Prop := ∀ (o : W) (ws : List W) (z : W) (u : V) (vs : List V) (ad : List Addr) (m : Sto) (F H : Hp) (Q : VK),
  RW K ad F o u → RWs K ad F ws vs → At K ad m F H → g o ws m = some z → (∀ b F' H', Ext ad F H ad F' H' → At K ad m F' H' → RW K ad F' z b → Q b H') → r u vs H Q
def dLook (g : W → List W → Sto → Option W) (f : Fe) (fs : Fa) : Fe := fun r m => (f r m).bind fun w m1 => (lstOf w m1).elim .bad fun _ => (fs r m1).bind fun ws m2 => .opt (g w ws m2) m2
section
variable {K : PySem.W.Frag} {Wx : WX} {f : Fe} {fs : Fa}
theorem look_w {r : V → List V → Hp → VK → Prop} {g : W → List W → Sto → Option W} (hg : MtRd K r g) {s : L2.St} {H : Hp} {Q : VK} (q : LE K Wx (dLook g f fs) s H Q) : tBM K "list" r (LE K Wx f) (LA K Wx fs) s H Q := by
  obtain ⟨ρ, ad, m, F, he, hA, hp⟩ := q
  refine ⟨_, _, _, _, he, hA, Post.mono (Post.bind hp) (fun w m1 ad1 F1 H1 e1 ha1 q0 u rw1 => ?_) fun _ _ _ _ _ _ _ _ z => z⟩
  obtain ⟨_, _, h1⟩ := q0
  cases ec : lstOf w m1 with
  | none => rw [ec] at h1; exact h1.elim
  | some xs =>
    rw [ec] at h1
    obtain ⟨a, vs0, rfl, q1, s1⟩ := ha1.lst rw1 ec
    refine ⟨.inl ⟨rfl, vs0, q1⟩, ?_⟩
    refine ⟨_, _, _, _, he.ext e1, ha1, Post.mono (Post.bind h1) (fun ws m2 ad2 F2 H2 e2 ha2 q0 vs rw2 => ?_) fun _ _ _ _ _ _ _ _ z => z⟩
    obtain ⟨_, _, h2⟩ := q0
    cases eg : g w ws m2 with
    | none => rw [eg] at h2; exact h2.elim
    | some z =>
      rw [eg] at h2
      exact hg w ws z _ vs ad2 m2 F2 H2 Q (rw1.ext e2) rw2 ha2 eg fun b F' H' x1 x2 x3 => h2 _ _ _ x1 x2 b x3
end
theorem de_look {X : Cx} {Wx : WX} {e : Expr} {f : Fe} {fs : Fa} {r : V → List V → Hp → VK → Prop} {g : W → List W → Sto → Option W} (hg : MtRd X.K r g) (h : PE X e (tBM X.K "list" r (LE X.K Wx f) (LA X.K Wx fs))) : DE X Wx e (dLook g f fs) :=
  pe_weak h fun _ _ _ q => look_w hg q
@[simp] theorem e_look (g : W → List W → Sto → Option W) (f : Fe) (fs : Fa) (r : Rho) (m : Sto) : dLook g f fs r m = (f r m).bind fun w m1 => (lstOf w m1).elim .bad fun _ => (fs r m1).bind fun ws m2 => .opt (g w ws m2) m2 := rfl
section
variable {X : Cx} {Wx : WX} {e : Expr} {f : Fe} {fs : Fa} {r : V → List V → Hp → VK → Prop} {g : Nat → List W → Sto → Option (W × Sto)}
theorem de_mt (hg : MtD X.K r g) (h : PE X e (tBM X.K "list" r (LE X.K Wx f) (LA X.K Wx fs))) : DE X Wx e (dMt g f fs) := pe_weak h fun _ _ _ q => mt_w hg q
theorem de_mt0 (hg : MtD X.K r g) (h : PE X e (tBM0 X.K "list" r (LE X.K Wx f))) : DE X Wx e (dMt g f dNil) := pe_weak h fun _ _ _ q => mt0_w hg q
end
/-! ### how many are equal -/
def rCountD (K : PySem.W.Frag) : V → List V → Hp → VK → Prop := fun x xs H Q => ∃ (p : Addr) (y : V) (d : PyData) (ds : List PyData), x = V.ref p ∧ xs = [y] ∧ Dp K H (V.ref p) (.list ds) ∧ Dp K H y d ∧
  SeqAt.shaped (.list ds) = true ∧ SeqAt.shaped d = true ∧ Q (.int (ds.countP fun z => PyData.eqv z d : Nat)) H
theorem mt_countD {X : Cx} (hu : X.A.units + 65 < cLine) : MtR X "list.count" (rCountD X.K) := by
  intro pins s σ H x xs v us Q I rx rxs h
  obtain ⟨p, y, d, ds, rfl, rfl, hl, hy, sl, sd, q⟩ := h
  cases rx
  obtain ⟨uy, rfl, ry⟩ := rxs.one
  obtain ⟨bs, r1⟩ := Dp.reads I d y uy hy ry
  have lay : PyData.canLayAll0 ds = true := SeqAt.canLay_of_shaped sl
  have room : X.A.units + 1 + min (PyData.depthAll ds) d.depth < cLine := room_in_shaped sd hu
  cases hl with
  | lst hs ha =>
    obtain ⟨its, rv, ⟨⟨cl, dct, dt, slo⟩, n, ho, hc, hdn, hdt⟩, hlen⟩ := I.list hs
    simp only at hc hdt
    subst hc hdt
    obtain ⟨as, h4⟩ := Dp.readsAll I ds _ its ha rv
    have hm : its.map (SeqAt.readOf s.heap) = ds := SeqAt.readsAll_map ds its as lay h4
    refine call_meets PySem.F.slot_list_count ⟨_, ho, rfl⟩ PySem.F.entry_list_count (PySem.F.args_list_count_2 _ _)
      (SeqAt.list_countAt p its.toArray n dct slo uy (fun u => PyData.eqv (SeqAt.readOf s.heap u) d)) ⟨ho, SeqAt.items_eqAt (vs := its.toArray) (show ReadsAll s.heap its.toArray.toList ds as from h4) r1 lay (SeqAt.canLay_of_shaped sd) room, ?_⟩
    have ec : its.toArray.toList.countP (fun u => PyData.eqv (SeqAt.readOf s.heap u) d) = ds.countP fun z => PyData.eqv z d := by
      rw [← hm, List.countP_map]
      rfl
    refine ⟨.int (ds.countP fun z => PyData.eqv z d : Nat), H, I.tok _, ⟨s.toks, ?_⟩, q⟩
    show Value.int ((its.toArray.toList.countP (fun u => PyData.eqv (SeqAt.readOf s.heap u) d) : Nat) : Int) s.toks = _
    rw [ec]
def gCount (o : W) : List W → Sto → Option W
  | [y], m => match datOf o m, datOf y m with
    | some (.list ds), some d => if SeqAt.shaped (.list ds) && SeqAt.shaped d then some (.d (.int (ds.countP fun z => PyData.eqv z d : Nat))) else none
    | _, _ => none
  | _, _ => none
theorem md_count {K : PySem.W.Frag} : MtRd K (rCountD K) gCount := by
  intro o ws z u vs ad m F H Q r1 r2 hA e q
  unfold gCount at e
  split at e
  · rename_i y m0
    obtain ⟨v, rfl, ry⟩ := r2.one
    split at e
    · rename_i ds d h1 h2
      split at e
      · rename_i hs
        cases e
        have hs := Bool.and_eq_true_iff.mp hs
        obtain ⟨a, vs, rfl, _, _⟩ := hA.lst' r1 h1
        exact ⟨a, v, d, ds, rfl, rfl, hA.dp r1 h1, hA.dp ry h2, hs.1, hs.2, q _ F H Ext.refl hA (.int _)⟩
      · cases e
    · cases e
  · cases e
@[simp] theorem count_1 (ds : List D) (x : D) (m : Sto) : gCount (.d (.list ds)) [.d x] m = if SeqAt.shaped (.list ds) && SeqAt.shaped x then some (.d (.int (ds.countP fun z => PyData.eqv z x : Nat))) else none := rfl
/-! ### sizes of small tuples -/
theorem t1 {x : D} {k K a N : Nat} (h : Good k a x) (hn : a + 6 ≤ N) (hk : k + 1 ≤ K) : Good K N (.tuple [x]) := (GoodA.one h).tup.mono hk (by omega)
theorem t2 {x y : D} {k l K a b N : Nat} (h : Good k a x) (h2 : Good l b y) (hn : a + b + 6 ≤ N) (hk : k + 1 ≤ K) (hl : l + 1 ≤ K) : Good K N (.tuple [x, y]) :=
  ((GoodA.one (h.mono (k' := K - 1) (by omega) (Nat.le_refl _))).app (GoodA.one (h2.mono (k' := K - 1) (by omega) (Nat.le_refl _)))).tup.mono (by omega) (by omega)
theorem l2 {x y : D} {k l K a b N : Nat} (h : Good k a x) (h2 : Good l b y) (hn : a + b + 6 ≤ N) (hk : k + 1 ≤ K) (hl : l + 1 ≤ K) : Good K N (.list [x, y]) :=
  ((GoodA.one (h.mono (k' := K - 1) (by omega) (Nat.le_refl _))).app (GoodA.one (h2.mono (k' := K - 1) (by omega) (Nat.le_refl _)))).lst.mono (by omega) (by omega)
theorem t3 {x y z : D} {k l n K a b c N : Nat} (h : Good k a x) (h2 : Good l b y) (h3 : Good n c z) (hn : a + b + c + 6 ≤ N) (hk : k + 1 ≤ K) (hl : l + 1 ≤ K) (hz : n + 1 ≤ K) : Good K N (.tuple [x, y, z]) :=
  (((GoodA.one (h.mono (k' := K - 1) (by omega) (Nat.le_refl _))).app (GoodA.one (h2.mono (k' := K - 1) (by omega) (Nat.le_refl _)))).app (GoodA.one (h3.mono (k' := K - 1) (by omega) (Nat.le_refl _)))).tup.mono (by omega) (by omega)
theorem goodA_all {k n : Nat} : ∀ {xs : List D}, (∀ x ∈ xs, Good k n x) → GoodA k (n * xs.length) xs
  | [], _ => GoodA.nil
  | x :: xs, h => by
    have := GoodA.cons (h x List.mem_cons_self) (goodA_all fun y hy => h y (List.mem_cons_of_mem _ hy))
    exact this.mono (Nat.le_refl _) (by rw [List.length_cons, Nat.mul_add]; omega)
theorem eqv_int (a b : Int) : PyData.eqv (.int a) (.int b) = (a == b) := by simp [PyData.eqv]
theorem str_eqv (x : Str) : PyData.eqv (.str x) (.str x) = true := by simp [PyData.eqv]
/-! ### cells at the end of a store -/
@[simp] theorem get_at0 (m l : Sto) (c : Cell) : (m ++ c :: l)[m.length]? = some c := by simp
@[simp] theorem get_at1 (m l : Sto) (a c : Cell) : (m ++ a :: c :: l)[m.length + 1]? = some c := by simp
@[simp] theorem get_at2 (m l : Sto) (a b c : Cell) : (m ++ a :: b :: c :: l)[m.length + 2]? = some c := by simp
@[simp] theorem set_at0 (m l : Sto) (c d : Cell) : (m ++ c :: l).set m.length d = m ++ d :: l := by simp
@[simp] theorem set_at1 (m l : Sto) (a c d : Cell) : (m ++ a :: c :: l).set (m.length + 1) d = m ++ a :: d :: l := by simp [List.set_append_right]
@[simp] theorem set_at2 (m l : Sto) (a b c d : Cell) : (m ++ a :: b :: c :: l).set (m.length + 2) d = m ++ a :: b :: d :: l := by simp [List.set_append_right]
end DL

namespace Lw
open PySem L2 DL PyProof.Rows
def topS (i : Nat) : Stmt := PySem.Challenge.pw_ledclocks_k02_fractions_reckoned.main.body.getD i (.Pass ⟨0, 0, 0, 0⟩)
structure Bt (mg : Str → Option Value) : Prop where
  z_abs : mg "abs" = none
  z_int : mg "int" = none
  z_len : mg "len" = none
  z_range : mg "range" = none
  z_repr : mg "repr" = none
/-! ### common_divisor -/
abbrev s_common_divisor : Stmt := topS 1
abbrev N_common_divisor : List Str := ["one", "other"]
abbrev p_common_divisor : List Str := ["one", "other"]
theorem sc_common_divisor : FnScope N_common_divisor p_common_divisor (defScope s_common_divisor) := ⟨rfl, rfl, rfl, by decide +kernel, rfl, by decide +kernel, by decide +kernel⟩
noncomputable def m_common_divisor : Fs :=
    (sSeq (sWhile (dIsT (dBin gNe (dVar 1) (dC (.int 0))))
    (sPar 0 1 (dCons (dVar 1) (dCons (dBin gMod (dVar 0) (dVar 1)) dNil))))
    (sRet (dVar 0)))
noncomputable def F_common_divisor : List W → Sto → Out W := runB N_common_divisor.length m_common_divisor
/-! ### ratio -/
abbrev s_ratio : Stmt := topS 2
abbrev N_ratio : List Str := ["a", "b", "divisor"]
abbrev p_ratio : List Str := ["a", "b"]
theorem sc_ratio : FnScope N_ratio p_ratio (defScope s_ratio) := ⟨rfl, rfl, rfl, by decide +kernel, rfl, by decide +kernel, by decide +kernel⟩
noncomputable def m_ratio : Fs :=
    (sSeq (sAsg (dCall F_common_divisor (dCons (dCB gAbs (dCons (dVar 0) dNil)) (dCons (dCB gAbs (dCons (dVar 1) dNil)) dNil))) (gN 2))
    (sSeq (sIf (dIsT (dBin gLt (dVar 1) (dC (.int 0))))
    (sAsg (dBin gSub (dC (.int 0)) (dVar 2)) (gN 2))
    sNx)
    (sRet (dTup (dCons (dBin gDivA (dVar 0) (dVar 2)) (dCons (dBin gDivA (dVar 1) (dVar 2)) dNil))))))
noncomputable def F_ratio : List W → Sto → Out W := runB N_ratio.length m_ratio
/-! ### added -/
abbrev s_added : Stmt := topS 3
abbrev N_added : List Str := ["one", "other"]
abbrev p_added : List Str := ["one", "other"]
theorem sc_added : FnScope N_added p_added (defScope s_added) := ⟨rfl, rfl, rfl, by decide +kernel, rfl, by decide +kernel, by decide +kernel⟩
noncomputable def m_added : Fs :=
    (sRet (dCall F_ratio (dCons (dBin gAdd (dBin gMul (dBin gIx (dVar 0) (dC (.int 0))) (dBin gIx (dVar 1) (dC (.int 1)))) (dBin gMul (dBin gIx (dVar 1) (dC (.int 0))) (dBin gIx (dVar 0) (dC (.int 1))))) (dCons (dBin gMul (dBin gIx (dVar 0) (dC (.int 1))) (dBin gIx (dVar 1) (dC (.int 1)))) dNil))))
noncomputable def F_added : List W → Sto → Out W := runB N_added.length m_added
/-! ### less -/
abbrev s_less : Stmt := topS 4
abbrev N_less : List Str := ["one", "other"]
abbrev p_less : List Str := ["one", "other"]
theorem sc_less : FnScope N_less p_less (defScope s_less) := ⟨rfl, rfl, rfl, by decide +kernel, rfl, by decide +kernel, by decide +kernel⟩
noncomputable def m_less : Fs :=
    (sRet (dCall F_ratio (dCons (dBin gSub (dBin gMul (dBin gIx (dVar 0) (dC (.int 0))) (dBin gIx (dVar 1) (dC (.int 1)))) (dBin gMul (dBin gIx (dVar 1) (dC (.int 0))) (dBin gIx (dVar 0) (dC (.int 1))))) (dCons (dBin gMul (dBin gIx (dVar 0) (dC (.int 1))) (dBin gIx (dVar 1) (dC (.int 1)))) dNil))))
noncomputable def F_less : List W → Sto → Out W := runB N_less.length m_less
/-! ### times -/
abbrev s_times : Stmt := topS 5
abbrev N_times : List Str := ["one", "other"]
abbrev p_times : List Str := ["one", "other"]
theorem sc_times : FnScope N_times p_times (defScope s_times) := ⟨rfl, rfl, rfl, by decide +kernel, rfl, by decide +kernel, by decide +kernel⟩
noncomputable def m_times : Fs :=
    (sRet (dCall F_ratio (dCons (dBin gMul (dBin gIx (dVar 0) (dC (.int 0))) (dBin gIx (dVar 1) (dC (.int 0)))) (dCons (dBin gMul (dBin gIx (dVar 0) (dC (.int 1))) (dBin gIx (dVar 1) (dC (.int 1)))) dNil))))
noncomputable def F_times : List W → Sto → Out W := runB N_times.length m_times
/-! ### parted -/
abbrev s_parted : Stmt := topS 6
abbrev N_parted : List Str := ["one", "other"]
abbrev p_parted : List Str := ["one", "other"]
theorem sc_parted : FnScope N_parted p_parted (defScope s_parted) := ⟨rfl, rfl, rfl, by decide +kernel, rfl, by decide +kernel, by decide +kernel⟩
noncomputable def m_parted : Fs :=
    (sRet (dCall F_ratio (dCons (dBin gMul (dBin gIx (dVar 0) (dC (.int 0))) (dBin gIx (dVar 1) (dC (.int 1)))) (dCons (dBin gMul (dBin gIx (dVar 0) (dC (.int 1))) (dBin gIx (dVar 1) (dC (.int 0)))) dNil))))
noncomputable def F_parted : List W → Sto → Out W := runB N_parted.length m_parted
/-! ### is_below -/
abbrev s_is_below : Stmt := topS 7
abbrev N_is_below : List Str := ["one", "other"]
abbrev p_is_below : List Str := ["one", "other"]
theorem sc_is_below : FnScope N_is_below p_is_below (defScope s_is_below) := ⟨rfl, rfl, rfl, by decide +kernel, rfl, by decide +kernel, by decide +kernel⟩
noncomputable def m_is_below : Fs :=
    (sRet (dBin gLt (dBin gMul (dBin gIx (dVar 0) (dC (.int 0))) (dBin gIx (dVar 1) (dC (.int 1)))) (dBin gMul (dBin gIx (dVar 1) (dC (.int 0))) (dBin gIx (dVar 0) (dC (.int 1))))))
noncomputable def F_is_below : List W → Sto → Out W := runB N_is_below.length m_is_below
/-! ### _law_feed -/
abbrev s_l_feed : Stmt := topS 9
abbrev N_l_feed : List Str := ["_law_script"]
abbrev p_l_feed : List Str := ["_law_script"]
theorem sc_l_feed : FnScope N_l_feed p_l_feed (defScope s_l_feed) := ⟨rfl, rfl, rfl, by decide +kernel, rfl, by decide +kernel, by decide +kernel⟩
noncomputable def m_l_feed : Fs :=
    (sRet (dCell (dLst (dCons (dSl (dVar 0) oNone (oSome (dC (.int 63)))) (dCons (dC (.int 0)) (dCons (dC (.int 0)) (dCons (dC (.int 0)) dNil)))))))
noncomputable def F_l_feed : List W → Sto → Out W := runB N_l_feed.length m_l_feed
/-! ### _law_draw -/
abbrev s_l_draw : Stmt := topS 10
abbrev N_l_draw : List Str := ["_law_feed_here", "_law_many", "_law_found", "_law_cell", "_law_mixed"]
abbrev p_l_draw : List Str := ["_law_feed_here", "_law_many"]
theorem sc_l_draw : FnScope N_l_draw p_l_draw (defScope s_l_draw) := ⟨rfl, rfl, rfl, by decide +kernel, rfl, by decide +kernel, by decide +kernel⟩
noncomputable def m_l_draw : Fs :=
    (sSeq (sAsg (dBin gAdd (dBin gIx (dVar 0) (dC (.int 3))) (dC (.int 1))) (gSet (dVar 0) (dC (.int 3))))
    (sSeq (sIf (dIsT (dBin gGt (dBin gIx (dVar 0) (dC (.int 2))) (dC (.int 0))))
    (sSeq (sAsg (dBin gMod (dBin gIx (dVar 0) (dC (.int 2))) (dVar 1)) (gN 2))
    (sSeq (sAsg (dBin gDiv (dBin gIx (dVar 0) (dC (.int 2))) (dVar 1)) (gSet (dVar 0) (dC (.int 2))))
    (sRet (dVar 2))))
    sNx)
    (sSeq (sAsg (dC (.int 5)) (gN 3))
    (sSeq (sIf (dIsT (dBin gNe (dBin gIx (dVar 0) (dC (.int 0))) (dData (dLst dNil))))
    (sAsg (dBin gIx (dBin gIx (dVar 0) (dC (.int 0))) (dBin gMod (dBin gIx (dVar 0) (dC (.int 1))) (dCB gLen (dCons (dBin gIx (dVar 0) (dC (.int 0))) dNil)))) (gN 3))
    sNx)
    (sSeq (sAsg (dBin gAdd (dBin gIx (dVar 0) (dC (.int 1))) (dC (.int 1))) (gSet (dVar 0) (dC (.int 1))))
    (sSeq (sIf (dAndT (dIsT (dBin gGe (dVar 3) (dBin gPow (dC (.int 10)) (dC (.int 18))))) (dIsT (dBin gLe (dBin gIx (dVar 0) (dC (.int 1))) (dCB gLen (dCons (dBin gIx (dVar 0) (dC (.int 0))) dNil)))))
    (sSeq (sAsg (dBin gDiv (dVar 3) (dVar 1)) (gSet (dVar 0) (dC (.int 2))))
    (sRet (dBin gMod (dVar 3) (dVar 1))))
    sNx)
    (sSeq (sAsg (dBin gMod (dBin gPow (dBin gAdd (dBin gAdd (dBin gMod (dVar 3) (dC (.int 2147483629))) (dBin gMulS (dC (.int 7919)) (dBin gIx (dVar 0) (dC (.int 3))))) (dC (.int 1))) (dC (.int 5))) (dC (.int 2147483647))) (gN 4))
    (sRet (dBin gMod (dBin gDiv (dBin gMod (dBin gPow (dBin gAdd (dVar 4) (dBin gMulS (dC (.int 104729)) (dBin gIx (dVar 0) (dC (.int 3))))) (dC (.int 5))) (dC (.int 2147483587))) (dC (.int 64))) (dVar 1))))))))))
noncomputable def F_l_draw : List W → Sto → Out W := runB N_l_draw.length m_l_draw
/-! ### _law_divisor -/
abbrev s_l_divisor : Stmt := topS 11
abbrev N_l_divisor : List Str := ["_law_one", "_law_other"]
abbrev p_l_divisor : List Str := ["_law_one", "_law_other"]
theorem sc_l_divisor : FnScope N_l_divisor p_l_divisor (defScope s_l_divisor) := ⟨rfl, rfl, rfl, by decide +kernel, rfl, by decide +kernel, by decide +kernel⟩
noncomputable def m_l_divisor : Fs :=
    (sSeq (sWhile (dIsT (dBin gGt (dVar 1) (dC (.int 0))))
    (sPar 0 1 (dCons (dVar 1) (dCons (dBin gMod (dVar 0) (dVar 1)) dNil))))
    (sRet (dVar 0)))
noncomputable def F_l_divisor : List W → Sto → Out W := runB N_l_divisor.length m_l_divisor
/-! ### _law_made -/
abbrev s_l_made : Stmt := topS 12
abbrev N_l_made : List Str := ["_law_a", "_law_b", "_law_divisor_here"]
abbrev p_l_made : List Str := ["_law_a", "_law_b"]
theorem sc_l_made : FnScope N_l_made p_l_made (defScope s_l_made) := ⟨rfl, rfl, rfl, by decide +kernel, rfl, by decide +kernel, by decide +kernel⟩
noncomputable def m_l_made : Fs :=
    (sSeq (sIf (dIsT (dBin gLt (dVar 1) (dC (.int 0))))
    (sPar 0 1 (dCons (dBin gSub (dC (.int 0)) (dVar 0)) (dCons (dBin gSub (dC (.int 0)) (dVar 1)) dNil)))
    sNx)
    (sSeq (sAsg (dCall F_l_divisor (dCons (dCB gAbs (dCons (dVar 0) dNil)) (dCons (dVar 1) dNil))) (gN 2))
    (sRet (dTup (dCons (dBin gDiv (dVar 0) (dVar 2)) (dCons (dBin gDiv (dVar 1) (dVar 2)) dNil))))))
noncomputable def F_l_made : List W → Sto → Out W := runB N_l_made.length m_l_made
/-! ### _law_fraction -/
abbrev s_l_fraction : Stmt := topS 13
abbrev N_l_fraction : List Str := ["_law_feed_here", "_law_above", "_law_below"]
abbrev p_l_fraction : List Str := ["_law_feed_here"]
theorem sc_l_fraction : FnScope N_l_fraction p_l_fraction (defScope s_l_fraction) := ⟨rfl, rfl, rfl, by decide +kernel, rfl, by decide +kernel, by decide +kernel⟩
noncomputable def m_l_fraction : Fs :=
    (sSeq (sAsg (dBin gIx (dData (dLst (dCons (dBin gSub (dCall F_l_draw (dCons (dVar 0) (dCons (dC (.int 13)) dNil))) (dC (.int 6))) (dCons (dBin gSub (dCall F_l_draw (dCons (dVar 0) (dCons (dC (.int 1999999)) dNil))) (dC (.int 999999))) (dCons (dC (.int 0)) (dCons (dC (.int 1)) (dCons (dUn gNeg (dC (.int 1))) dNil))))))) (dCall F_l_draw (dCons (dVar 0) (dCons (dC (.int 5)) dNil)))) (gN 1))
    (sSeq (sAsg (dBin gIx (dData (dLst (dCons (dC (.int 1)) (dCons (dBin gAdd (dC (.int 1)) (dCall F_l_draw (dCons (dVar 0) (dCons (dC (.int 12)) dNil)))) (dCons (dBin gAdd (dC (.int 1)) (dCall F_l_draw (dCons (dVar 0) (dCons (dC (.int 999999)) dNil)))) dNil))))) (dCall F_l_draw (dCons (dVar 0) (dCons (dC (.int 3)) dNil)))) (gN 2))
    (sRet (dCall F_l_made (dCons (dVar 1) (dCons (dVar 2) dNil))))))
noncomputable def F_l_fraction : List W → Sto → Out W := runB N_l_fraction.length m_l_fraction
/-! ### _law_is_right -/
abbrev s_l_is_right : Stmt := topS 14
abbrev N_l_is_right : List Str := ["_law_one", "_law_other", "_law_a", "_law_b", "_law_c", "_law_d", "_law_told", "_law_due"]
abbrev p_l_is_right : List Str := ["_law_one", "_law_other"]
theorem sc_l_is_right : FnScope N_l_is_right p_l_is_right (defScope s_l_is_right) := ⟨rfl, rfl, rfl, by decide +kernel, rfl, by decide +kernel, by decide +kernel⟩
noncomputable def m_l_is_right : Fs :=
    (sSeq (sAsg (dTup (dCons (dVar 0) (dCons (dVar 1) dNil))) (gT 2 (gsCons (gT 2 (gsCons (gN 2) (gsCons (gN 3) gsNil))) (gsCons (gT 2 (gsCons (gN 4) (gsCons (gN 5) gsNil))) gsNil))))
    (sSeq (sAsg (dCell (dLst (dCons (dCall F_added (dCons (dVar 0) (dCons (dVar 1) dNil))) (dCons (dCall F_less (dCons (dVar 0) (dCons (dVar 1) dNil))) (dCons (dCall F_times (dCons (dVar 0) (dCons (dVar 1) dNil))) (dCons (dCall F_is_below (dCons (dVar 0) (dCons (dVar 1) dNil))) (dCons (dCall F_ratio (dCons (dVar 2) (dCons (dVar 5) dNil))) (dCons (dCall F_ratio (dCons (dVar 2) (dCons (dBin gSub (dC (.int 0)) (dVar 3)) dNil))) dNil)))))))) (gN 6))
    (sSeq (sAsg (dCell (dLst (dCons (dCall F_l_made (dCons (dBin gAdd (dBin gMul (dVar 2) (dVar 5)) (dBin gMul (dVar 4) (dVar 3))) (dCons (dBin gMul (dVar 3) (dVar 5)) dNil))) (dCons (dCall F_l_made (dCons (dBin gSub (dBin gMul (dVar 2) (dVar 5)) (dBin gMul (dVar 4) (dVar 3))) (dCons (dBin gMul (dVar 3) (dVar 5)) dNil))) (dCons (dCall F_l_made (dCons (dBin gMul (dVar 2) (dVar 4)) (dCons (dBin gMul (dVar 3) (dVar 5)) dNil))) (dCons (dBin gLt (dBin gSub (dBin gMul (dVar 2) (dVar 5)) (dBin gMul (dVar 4) (dVar 3))) (dC (.int 0))) dNil)))))) (gN 7))
    (sSeq (sIf (dIsT (dBin gNe (dVar 4) (dC (.int 0))))
    (sDrop (dMt gApp (dVar 6) (dCons (dCall F_parted (dCons (dVar 0) (dCons (dVar 1) dNil))) dNil)))
    sNx)
    (sSeq (sAsg (dCell (dCat (dVar 7) (dData (dLst (dCons (dCall F_l_made (dCons (dVar 2) (dCons (dVar 5) dNil))) (dCons (dCall F_l_made (dCons (dBin gSub (dC (.int 0)) (dVar 2)) (dCons (dVar 3) dNil))) dNil)))))) (gN 7))
    (sSeq (sIf (dIsT (dBin gNe (dVar 4) (dC (.int 0))))
    (sDrop (dMt gApp (dVar 7) (dCons (dCall F_l_made (dCons (dBin gIx (dData (dLst (dCons (dBin gMul (dVar 2) (dVar 5)) (dCons (dBin gSub (dC (.int 0)) (dBin gMul (dVar 2) (dVar 5))) dNil)))) (dCB gInt (dCons (dBin gLt (dVar 4) (dC (.int 0))) dNil))) (dCons (dBin gMul (dVar 3) (dCB gAbs (dCons (dVar 4) dNil))) dNil))) dNil)))
    sNx)
    (sRet (dBin gEq (dCB gRepr (dCons (dVar 6) dNil)) (dCB gRepr (dCons (dVar 7) dNil))))))))))
noncomputable def F_l_is_right : List W → Sto → Out W := runB N_l_is_right.length m_l_is_right
/-! ### _law_threes_right -/
abbrev s_l_threes_right : Stmt := topS 15
abbrev N_l_threes_right : List Str := ["_law_a", "_law_b", "_law_c"]
abbrev p_l_threes_right : List Str := ["_law_a", "_law_b", "_law_c"]
theorem sc_l_threes_right : FnScope N_l_threes_right p_l_threes_right (defScope s_l_threes_right) := ⟨rfl, rfl, rfl, by decide +kernel, rfl, by decide +kernel, by decide +kernel⟩
noncomputable def m_l_threes_right : Fs :=
    (sSeq (sIf (dOrT (dIsT (dBin gNe (dCall F_added (dCons (dCall F_added (dCons (dVar 0) (dCons (dVar 1) dNil))) (dCons (dVar 2) dNil))) (dCall F_added (dCons (dVar 0) (dCons (dCall F_added (dCons (dVar 2) (dCons (dVar 1) dNil))) dNil))))) (dIsT (dBin gNe (dCall F_times (dCons (dCall F_times (dCons (dVar 0) (dCons (dVar 1) dNil))) (dCons (dVar 2) dNil))) (dCall F_times (dCons (dVar 0) (dCons (dCall F_times (dCons (dVar 2) (dCons (dVar 1) dNil))) dNil))))))
    (sRet (dC (.bool false)))
    sNx)
    (sSeq (sIf (dOrT (dIsT (dBin gNe (dCall F_times (dCons (dVar 0) (dCons (dCall F_less (dCons (dVar 1) (dCons (dVar 2) dNil))) dNil))) (dCall F_less (dCons (dCall F_times (dCons (dVar 0) (dCons (dVar 1) dNil))) (dCons (dCall F_times (dCons (dVar 0) (dCons (dVar 2) dNil))) dNil))))) (dIsT (dBin gNe (dCall F_added (dCons (dCall F_less (dCons (dVar 0) (dCons (dVar 1) dNil))) (dCons (dVar 1) dNil))) (dVar 0))))
    (sRet (dC (.bool false)))
    sNx)
    (sSeq (sIf (dAndT (dIsT (dBin gNe (dBin gIx (dVar 1) (dC (.int 0))) (dC (.int 0)))) (dOrT (dIsT (dBin gNe (dCall F_times (dCons (dCall F_parted (dCons (dVar 0) (dCons (dVar 1) dNil))) (dCons (dVar 1) dNil))) (dVar 0))) (dIsT (dBin gNe (dCall F_parted (dCons (dVar 1) (dCons (dVar 1) dNil))) (dTup (dCons (dC (.int 1)) (dCons (dC (.int 1)) dNil)))))))
    (sRet (dC (.bool false)))
    sNx)
    (sRet (dBin gEq (dLook gCount (dData (dLst (dCons (dCall F_is_below (dCons (dVar 0) (dCons (dVar 1) dNil))) (dCons (dCall F_is_below (dCons (dVar 1) (dCons (dVar 0) dNil))) (dCons (dBin gEq (dVar 0) (dVar 1)) dNil))))) (dCons (dC (.bool true)) dNil)) (dC (.int 1)))))))
noncomputable def F_l_threes_right : List W → Sto → Out W := runB N_l_threes_right.length m_l_threes_right
/-! ### _law_great_right -/
abbrev s_l_great_right : Stmt := topS 16
abbrev N_l_great_right : List Str := ["_law_feed_here", "_law_some", "_law_a", "_law_b", "_law_one", "_law_other", "_law_k"]
abbrev p_l_great_right : List Str := ["_law_feed_here"]
theorem sc_l_great_right : FnScope N_l_great_right p_l_great_right (defScope s_l_great_right) := ⟨rfl, rfl, rfl, by decide +kernel, rfl, by decide +kernel, by decide +kernel⟩
noncomputable def m_l_great_right : Fs :=
    (sSeq (sSetF 1 false (dLc (iRange1 (dC (.int 2))) (gN 6) tTru (dBin gAdd (dBin gMul (dBin gMul (dBin gPow (dC (.int 10)) (dC (.int 29))) (dCall F_l_draw (dCons (dVar 0) (dCons (dBin gPow (dC (.int 10)) (dC (.int 6))) dNil)))) (dBin gPow (dC (.int 10)) (dC (.int 24)))) (dBin gMul (dC (.int 720720)) (dCall F_l_draw (dCons (dVar 0) (dCons (dC (.int 1000)) dNil))))) [6]))
    (sSeq (sPar 2 3 (dCons (dBin gMul (dBin gIx (dVar 1) (dC (.int 0))) (dBin gIx (dData (dLst (dCons (dC (.int 1)) (dCons (dUn gNeg (dC (.int 1))) dNil)))) (dCall F_l_draw (dCons (dVar 0) (dCons (dC (.int 2)) dNil))))) (dCons (dBin gMul (dBin gAdd (dBin gIx (dVar 1) (dC (.int 1))) (dC (.int 1))) (dBin gIx (dData (dLst (dCons (dC (.int 1)) (dCons (dUn gNeg (dC (.int 1))) (dCons (dC (.int 6)) dNil))))) (dCall F_l_draw (dCons (dVar 0) (dCons (dC (.int 3)) dNil))))) dNil)))
    (sSeq (sIf (dIsT (dBin gNe (dCB gRepr (dCons (dData (dLst (dCons (dCall F_ratio (dCons (dVar 2) (dCons (dVar 3) dNil))) (dCons (dCall F_ratio (dCons (dVar 3) (dCons (dVar 3) dNil))) (dCons (dCall F_ratio (dCons (dBin gMul (dVar 2) (dC (.int 6))) (dCons (dVar 3) dNil))) dNil))))) dNil)) (dCB gRepr (dCons (dData (dLst (dCons (dCall F_l_made (dCons (dVar 2) (dCons (dVar 3) dNil))) (dCons (dTup (dCons (dC (.int 1)) (dCons (dC (.int 1)) dNil))) (dCons (dCall F_l_made (dCons (dBin gMul (dVar 2) (dC (.int 6))) (dCons (dVar 3) dNil))) dNil))))) dNil))))
    (sRet (dC (.bool false)))
    sNx)
    (sSeq (sAsg (dCall F_l_made (dCons (dBin gAdd (dBin gPow (dC (.int 10)) (dC (.int 29))) (dCall F_l_draw (dCons (dVar 0) (dCons (dBin gPow (dC (.int 10)) (dC (.int 6))) dNil)))) (dCons (dBin gAdd (dBin gAdd (dBin gPow (dC (.int 10)) (dC (.int 28))) (dC (.int 1))) (dCall F_l_draw (dCons (dVar 0) (dCons (dBin gPow (dC (.int 10)) (dC (.int 6))) dNil)))) dNil))) (gN 4))
    (sSeq (sAsg (dCall F_l_made (dCons (dBin gSub (dCall F_l_draw (dCons (dVar 0) (dCons (dBin gPow (dC (.int 10)) (dC (.int 6))) dNil))) (dBin gMul (dC (.int 7)) (dBin gPow (dC (.int 10)) (dC (.int 28))))) (dCons (dBin gAdd (dBin gAdd (dBin gPow (dC (.int 10)) (dC (.int 28))) (dC (.int 3))) (dCall F_l_draw (dCons (dVar 0) (dCons (dBin gPow (dC (.int 10)) (dC (.int 6))) dNil)))) dNil))) (gN 5))
    (sRet (dCall F_l_is_right (dCons (dVar 4) (dCons (dVar 5) dNil)))))))))
noncomputable def F_l_great_right : List W → Sto → Out W := runB N_l_great_right.length m_l_great_right
/-! ### law -/
abbrev s_law : Stmt := topS 17
abbrev N_law : List Str := ["_law_script", "_law_feed_here", "_law_turn", "_law_one", "_law_other", "_law_third", "_law_near", "_law_pair", "_law_k"]
abbrev p_law : List Str := ["_law_script"]
theorem sc_law : FnScope N_law p_law (defScope s_law) := ⟨rfl, rfl, rfl, by decide +kernel, rfl, by decide +kernel, by decide +kernel⟩
noncomputable def m_law : Fs :=
    (sSeq (sAsg (dCall F_l_feed (dCons (dVar 0) dNil)) (gN 1))
    (sSeq (sFor (iRange1 (dC (.int 12))) (gN 2)
    (sSeq (sAsg (dData (dLc (iRange1 (dC (.int 3))) (gN 8) tTru (dCall F_l_fraction (dCons (dVar 1) dNil)) [8])) (gU 3 (gsCons (gN 3) (gsCons (gN 4) (gsCons (gN 5) gsNil)))))
    (sSeq (sAsg (dCall F_l_made (dCons (dBin gAdd (dBin gMul (dBin gIx (dVar 3) (dC (.int 0))) (dBin gIx (dVar 4) (dC (.int 1)))) (dC (.int 1))) (dCons (dBin gMul (dBin gIx (dVar 3) (dC (.int 1))) (dBin gIx (dVar 4) (dC (.int 1)))) dNil))) (gN 6))
    (sSeq (sFor (iTupD (dTup (dCons (dTup (dCons (dVar 3) (dCons (dVar 4) dNil))) (dCons (dTup (dCons (dVar 4) (dCons (dVar 3) dNil))) (dCons (dTup (dCons (dVar 3) (dCons (dVar 3) dNil))) (dCons (dTup (dCons (dVar 3) (dCons (dVar 6) dNil))) (dCons (dTup (dCons (dVar 6) (dCons (dVar 3) dNil))) (dCons (dTup (dCons (dVar 3) (dCons (dTup (dCons (dC (.int 0)) (dCons (dC (.int 1)) dNil))) dNil))) (dCons (dTup (dCons (dTup (dCons (dC (.int 0)) (dCons (dC (.int 1)) dNil))) (dCons (dVar 4) dNil))) dNil))))))))) (gN 7)
    (sIf (dNotT (dTru (dCall F_l_is_right (dCons (dBin gIx (dVar 7) (dC (.int 0))) (dCons (dBin gIx (dVar 7) (dC (.int 1))) dNil)))))
    (sRet (dC (.bool false)))
    sNx))
    (sSeq (sIf (dOrT (dNotT (dTru (dCall F_l_is_right (dCons (dCall F_added (dCons (dVar 3) (dCons (dVar 4) dNil))) (dCons (dCall F_times (dCons (dVar 6) (dCons (dVar 4) dNil))) dNil))))) (dNotT (dTru (dCall F_l_threes_right (dCons (dVar 3) (dCons (dVar 4) (dCons (dVar 5) dNil)))))))
    (sRet (dC (.bool false)))
    sNx)
    (sIf (dNotT (dTru (dCall F_l_great_right (dCons (dVar 1) dNil))))
    (sRet (dC (.bool false)))
    sNx))))))
    (sRet (dC (.bool true)))))
noncomputable def F_law : List W → Sto → Out W := runB N_law.length m_law
section
variable {P : Program} {w : World} {K : PySem.W.Frag} {mg : Str → Option Value} {base : Heap}
theorem okF_common_divisor {f : Addr} {fd : FuncData} (F : Fun K "common_divisor" "common_divisor" s_common_divisor f fd) (B : Bt mg) : FnD P w K mg base 1 f fd p_common_divisor F_common_divisor := by
    refine okD (k := 0) (N := N_common_divisor) F sc_common_divisor fun cdv A outer s H E hr hg => ?_
    have nd := sc_common_divisor.nd
    exact (dss_cons (ds_while (passes_of (by rfl)) (dt_cmp (op_neD hr.units) od_ne (de_var 1 (pv 1)) de_int (nomark _))
    (dss_one (ds_par (ps_par (i := 0) (j := 1) (by rfl) nd (by rfl) (by rfl) (by decide) (by rfl) (by rfl) (da_cons (de_var 1 (pv 1)) (da_cons (de_bin op_modN od_mod (de_var 0 (pv 0)) (de_var 1 (pv 1))) da_nil)) (by rfl)))))
    (dss_one (ds_ret (de_var 0 (pv 0)))))
theorem ok_common_divisor {f : Addr} {fd : FuncData} (hx : mg "common_divisor" = some (.ref f)) (F : Fun K "common_divisor" "common_divisor" s_common_divisor f fd) (b : Binds K fd p_common_divisor []) (B : Bt mg) : Df P w K mg base "common_divisor" 1 p_common_divisor F_common_divisor :=
  ⟨f, fd, hx, F.kp, b, okF_common_divisor F B⟩
theorem okF_ratio {f : Addr} {fd : FuncData} (F : Fun K "ratio" "ratio" s_ratio f fd) (B : Bt mg) (D_common_divisor : Df P w K mg base "common_divisor" 1 p_common_divisor F_common_divisor) : FnD P w K mg base 2 f fd p_ratio F_ratio := by
    have D_common_divisor := D_common_divisor.mono (show _ ≤ 1 by omega)
    refine okD (k := 1) (N := N_ratio) F sc_ratio fun cdv A outer s H E hr hg => ?_
    have nd := sc_ratio.nd
    exact (dss_cons (ds_set (ps_set (i := 2) nd (by rfl) (Or.inl (by rfl)) (de_callD D_common_divisor hr hg (takes_of (by rfl) (by rfl) (by rfl) (by rfl)) (by rfl) (by rfl) (da_cons (de_cB cd_abs (pe_callB call_abs (by rfl) B.z_abs (by decide +kernel) (da_cons (de_var 0 (pv 0)) da_nil))) (da_cons (de_cB cd_abs (pe_callB call_abs (by rfl) B.z_abs (by decide +kernel) (da_cons (de_var 1 (pv 1)) da_nil))) da_nil)) (len_cons (len_cons len_nil)))))
    (dss_cons (ds_if (dt_cmp op_lt od_lt (de_var 1 (pv 1)) de_int (nomark _))
    (dss_one (ds_set (ps_set (i := 2) nd (by rfl) (Or.inl (by rfl)) (de_bin op_sub od_sub de_int (de_var 2 (pv 2))))))
    dss_nil)
    (dss_one (ds_ret (de_tup (da_cons (de_bin or_divA od_divA (de_var 0 (pv 0)) (de_var 2 (pv 2))) (da_cons (de_bin or_divA od_divA (de_var 1 (pv 1)) (de_var 2 (pv 2))) da_nil)))))))
theorem ok_ratio {f : Addr} {fd : FuncData} (hx : mg "ratio" = some (.ref f)) (F : Fun K "ratio" "ratio" s_ratio f fd) (b : Binds K fd p_ratio []) (B : Bt mg) (D_common_divisor : Df P w K mg base "common_divisor" 1 p_common_divisor F_common_divisor) : Df P w K mg base "ratio" 2 p_ratio F_ratio :=
  ⟨f, fd, hx, F.kp, b, okF_ratio F B D_common_divisor⟩
theorem okF_added {f : Addr} {fd : FuncData} (F : Fun K "added" "added" s_added f fd) (B : Bt mg) (D_ratio : Df P w K mg base "ratio" 2 p_ratio F_ratio) : FnD P w K mg base 3 f fd p_added F_added := by
    have D_ratio := D_ratio.mono (show _ ≤ 2 by omega)
    refine okD (k := 2) (N := N_added) F sc_added fun cdv A outer s H E hr hg => ?_
    have nd := sc_added.nd
    exact (dss_one (ds_ret (de_callD D_ratio hr hg (takes_of (by rfl) (by rfl) (by rfl) (by rfl)) (by rfl) (by rfl) (da_cons (de_bin or_add od_add (de_bin op_mulW od_mul (de_ix ix_seq od_ix (de_var 0 (pv 0)) de_int (fun _ _ => rfl)) (de_ix ix_seq od_ix (de_var 1 (pv 1)) de_int (fun _ _ => rfl))) (de_bin op_mulW od_mul (de_ix ix_seq od_ix (de_var 1 (pv 1)) de_int (fun _ _ => rfl)) (de_ix ix_seq od_ix (de_var 0 (pv 0)) de_int (fun _ _ => rfl)))) (da_cons (de_bin op_mulW od_mul (de_ix ix_seq od_ix (de_var 0 (pv 0)) de_int (fun _ _ => rfl)) (de_ix ix_seq od_ix (de_var 1 (pv 1)) de_int (fun _ _ => rfl))) da_nil)) (len_cons (len_cons len_nil)))))
theorem ok_added {f : Addr} {fd : FuncData} (hx : mg "added" = some (.ref f)) (F : Fun K "added" "added" s_added f fd) (b : Binds K fd p_added []) (B : Bt mg) (D_ratio : Df P w K mg base "ratio" 2 p_ratio F_ratio) : Df P w K mg base "added" 3 p_added F_added :=
  ⟨f, fd, hx, F.kp, b, okF_added F B D_ratio⟩
theorem okF_less {f : Addr} {fd : FuncData} (F : Fun K "less" "less" s_less f fd) (B : Bt mg) (D_ratio : Df P w K mg base "ratio" 2 p_ratio F_ratio) : FnD P w K mg base 3 f fd p_less F_less := by
    have D_ratio := D_ratio.mono (show _ ≤ 2 by omega)
    refine okD (k := 2) (N := N_less) F sc_less fun cdv A outer s H E hr hg => ?_
    have nd := sc_less.nd
    exact (dss_one (ds_ret (de_callD D_ratio hr hg (takes_of (by rfl) (by rfl) (by rfl) (by rfl)) (by rfl) (by rfl) (da_cons (de_bin op_sub od_sub (de_bin op_mulW od_mul (de_ix ix_seq od_ix (de_var 0 (pv 0)) de_int (fun _ _ => rfl)) (de_ix ix_seq od_ix (de_var 1 (pv 1)) de_int (fun _ _ => rfl))) (de_bin op_mulW od_mul (de_ix ix_seq od_ix (de_var 1 (pv 1)) de_int (fun _ _ => rfl)) (de_ix ix_seq od_ix (de_var 0 (pv 0)) de_int (fun _ _ => rfl)))) (da_cons (de_bin op_mulW od_mul (de_ix ix_seq od_ix (de_var 0 (pv 0)) de_int (fun _ _ => rfl)) (de_ix ix_seq od_ix (de_var 1 (pv 1)) de_int (fun _ _ => rfl))) da_nil)) (len_cons (len_cons len_nil)))))
theorem ok_less {f : Addr} {fd : FuncData} (hx : mg "less" = some (.ref f)) (F : Fun K "less" "less" s_less f fd) (b : Binds K fd p_less []) (B : Bt mg) (D_ratio : Df P w K mg base "ratio" 2 p_ratio F_ratio) : Df P w K mg base "less" 3 p_less F_less :=
  ⟨f, fd, hx, F.kp, b, okF_less F B D_ratio⟩
theorem okF_times {f : Addr} {fd : FuncData} (F : Fun K "times" "times" s_times f fd) (B : Bt mg) (D_ratio : Df P w K mg base "ratio" 2 p_ratio F_ratio) : FnD P w K mg base 3 f fd p_times F_times := by
    have D_ratio := D_ratio.mono (show _ ≤ 2 by omega)
    refine okD (k := 2) (N := N_times) F sc_times fun cdv A outer s H E hr hg => ?_
    have nd := sc_times.nd
    exact (dss_one (ds_ret (de_callD D_ratio hr hg (takes_of (by rfl) (by rfl) (by rfl) (by rfl)) (by rfl) (by rfl) (da_cons (de_bin op_mulW od_mul (de_ix ix_seq od_ix (de_var 0 (pv 0)) de_int (fun _ _ => rfl)) (de_ix ix_seq od_ix (de_var 1 (pv 1)) de_int (fun _ _ => rfl))) (da_cons (de_bin op_mulW od_mul (de_ix ix_seq od_ix (de_var 0 (pv 0)) de_int (fun _ _ => rfl)) (de_ix ix_seq od_ix (de_var 1 (pv 1)) de_int (fun _ _ => rfl))) da_nil)) (len_cons (len_cons len_nil)))))
theorem ok_times {f : Addr} {fd : FuncData} (hx : mg "times" = some (.ref f)) (F : Fun K "times" "times" s_times f fd) (b : Binds K fd p_times []) (B : Bt mg) (D_ratio : Df P w K mg base "ratio" 2 p_ratio F_ratio) : Df P w K mg base "times" 3 p_times F_times :=
  ⟨f, fd, hx, F.kp, b, okF_times F B D_ratio⟩
theorem okF_parted {f : Addr} {fd : FuncData} (F : Fun K "parted" "parted" s_parted f fd) (B : Bt mg) (D_ratio : Df P w K mg base "ratio" 2 p_ratio F_ratio) : FnD P w K mg base 3 f fd p_parted F_parted := by
    have D_ratio := D_ratio.mono (show _ ≤ 2 by omega)
    refine okD (k := 2) (N := N_parted) F sc_parted fun cdv A outer s H E hr hg => ?_
    have nd := sc_parted.nd
    exact (dss_one (ds_ret (de_callD D_ratio hr hg (takes_of (by rfl) (by rfl) (by rfl) (by rfl)) (by rfl) (by rfl) (da_cons (de_bin op_mulW od_mul (de_ix ix_seq od_ix (de_var 0 (pv 0)) de_int (fun _ _ => rfl)) (de_ix ix_seq od_ix (de_var 1 (pv 1)) de_int (fun _ _ => rfl))) (da_cons (de_bin op_mulW od_mul (de_ix ix_seq od_ix (de_var 0 (pv 0)) de_int (fun _ _ => rfl)) (de_ix ix_seq od_ix (de_var 1 (pv 1)) de_int (fun _ _ => rfl))) da_nil)) (len_cons (len_cons len_nil)))))
theorem ok_parted {f : Addr} {fd : FuncData} (hx : mg "parted" = some (.ref f)) (F : Fun K "parted" "parted" s_parted f fd) (b : Binds K fd p_parted []) (B : Bt mg) (D_ratio : Df P w K mg base "ratio" 2 p_ratio F_ratio) : Df P w K mg base "parted" 3 p_parted F_parted :=
  ⟨f, fd, hx, F.kp, b, okF_parted F B D_ratio⟩
theorem okF_is_below {f : Addr} {fd : FuncData} (F : Fun K "is_below" "is_below" s_is_below f fd) (B : Bt mg) : FnD P w K mg base 1 f fd p_is_below F_is_below := by
    refine okD (k := 0) (N := N_is_below) F sc_is_below fun cdv A outer s H E hr hg => ?_
    have nd := sc_is_below.nd
    exact (dss_one (ds_ret (de_cmp op_lt od_lt (de_bin op_mulW od_mul (de_ix ix_seq od_ix (de_var 0 (pv 0)) de_int (fun _ _ => rfl)) (de_ix ix_seq od_ix (de_var 1 (pv 1)) de_int (fun _ _ => rfl))) (de_bin op_mulW od_mul (de_ix ix_seq od_ix (de_var 1 (pv 1)) de_int (fun _ _ => rfl)) (de_ix ix_seq od_ix (de_var 0 (pv 0)) de_int (fun _ _ => rfl))) (nomark _))))
theorem ok_is_below {f : Addr} {fd : FuncData} (hx : mg "is_below" = some (.ref f)) (F : Fun K "is_below" "is_below" s_is_below f fd) (b : Binds K fd p_is_below []) (B : Bt mg) : Df P w K mg base "is_below" 1 p_is_below F_is_below :=
  ⟨f, fd, hx, F.kp, b, okF_is_below F B⟩
theorem okF_l_feed {f : Addr} {fd : FuncData} (F : Fun K "_law_feed" "_law_feed" s_l_feed f fd) (B : Bt mg) : FnD P w K mg base 1 f fd p_l_feed F_l_feed := by
    refine okD (k := 0) (N := N_l_feed) F sc_l_feed fun cdv A outer s H E hr hg => ?_
    have nd := sc_l_feed.nd
    exact (dss_one (ds_ret (de_cell (df_lst (da_cons (de_sl (de_var 0 (pv 0)) do_none (do_some de_int)) (da_cons de_int (da_cons de_int (da_cons de_int da_nil))))))))
theorem ok_l_feed {f : Addr} {fd : FuncData} (hx : mg "_law_feed" = some (.ref f)) (F : Fun K "_law_feed" "_law_feed" s_l_feed f fd) (b : Binds K fd p_l_feed []) (B : Bt mg) : Df P w K mg base "_law_feed" 1 p_l_feed F_l_feed :=
  ⟨f, fd, hx, F.kp, b, okF_l_feed F B⟩
theorem okF_l_draw {f : Addr} {fd : FuncData} (F : Fun K "_law_draw" "_law_draw" s_l_draw f fd) (B : Bt mg) : FnD P w K mg base 1 f fd p_l_draw F_l_draw := by
    refine okD (k := 0) (N := N_l_draw) F sc_l_draw fun cdv A outer s H E hr hg => ?_
    have nd := sc_l_draw.nd
    exact (dss_cons (ds_asg (sl := []) (de_bin or_add od_add (de_ix ix_seq od_ix (de_var 0 (pv 0)) de_int (fun _ _ => rfl)) de_int) (dg_set (pg_sub (de_var 0 (pv 0)) de_int set_list)))
    (dss_cons (ds_if (dt_cmp op_gt od_gt (de_ix ix_seq od_ix (de_var 0 (pv 0)) de_int (fun _ _ => rfl)) de_int (nomark _))
    (dss_cons (ds_set (ps_set (i := 2) nd (by rfl) (Or.inl (by rfl)) (de_bin op_modN od_mod (de_ix ix_seq od_ix (de_var 0 (pv 0)) de_int (fun _ _ => rfl)) (de_var 1 (pv 1)))))
    (dss_cons (ds_asg (sl := []) (de_bin op_fdivW od_div (de_ix ix_seq od_ix (de_var 0 (pv 0)) de_int (fun _ _ => rfl)) (de_var 1 (pv 1))) (dg_set (pg_sub (de_var 0 (pv 0)) de_int set_list)))
    (dss_one (ds_ret (de_var 2 (pv 2))))))
    dss_nil)
    (dss_cons (ds_set (ps_set (i := 3) nd (by rfl) (Or.inl (by rfl)) de_int))
    (dss_cons (ds_if (dt_cmp (op_neD hr.units) od_ne (de_ix ix_seq od_ix (de_var 0 (pv 0)) de_int (fun _ _ => rfl)) (de_data (df_lst da_nil)) (nomark _))
    (dss_one (ds_set (ps_set (i := 3) nd (by rfl) (Or.inl (by rfl)) (de_ix ix_seq od_ix (de_ix ix_seq od_ix (de_var 0 (pv 0)) de_int (fun _ _ => rfl)) (de_bin op_modN od_mod (de_ix ix_seq od_ix (de_var 0 (pv 0)) de_int (fun _ _ => rfl)) (de_cB cd_len (pe_callB call_len (by rfl) B.z_len (by decide +kernel) (da_cons (de_ix ix_seq od_ix (de_var 0 (pv 0)) de_int (fun _ _ => rfl)) da_nil)))) (fun _ _ => rfl)))))
    dss_nil)
    (dss_cons (ds_asg (sl := []) (de_bin or_add od_add (de_ix ix_seq od_ix (de_var 0 (pv 0)) de_int (fun _ _ => rfl)) de_int) (dg_set (pg_sub (de_var 0 (pv 0)) de_int set_list)))
    (dss_cons (ds_if (DW.pt (dw_and (dt_cmp op_ge od_ge (de_var 3 (pv 3)) (de_bin op_pow od_pow de_int de_int) (nomark _)) (dw_and1 (dt_cmp op_le od_le (de_ix ix_seq od_ix (de_var 0 (pv 0)) de_int (fun _ _ => rfl)) (de_cB cd_len (pe_callB call_len (by rfl) B.z_len (by decide +kernel) (da_cons (de_ix ix_seq od_ix (de_var 0 (pv 0)) de_int (fun _ _ => rfl)) da_nil))) (nomark _)))))
    (dss_cons (ds_asg (sl := []) (de_bin op_fdivW od_div (de_var 3 (pv 3)) (de_var 1 (pv 1))) (dg_set (pg_sub (de_var 0 (pv 0)) de_int set_list)))
    (dss_one (ds_ret (de_bin op_modN od_mod (de_var 3 (pv 3)) (de_var 1 (pv 1))))))
    dss_nil)
    (dss_cons (ds_set (ps_set (i := 4) nd (by rfl) (Or.inl (by rfl)) (de_bin op_modN od_mod (de_bin op_pow od_pow (de_bin or_add od_add (de_bin or_add od_add (de_bin op_modN od_mod (de_var 3 (pv 3)) de_int) (de_bin op_mul od_mulS de_int (de_ix ix_seq od_ix (de_var 0 (pv 0)) de_int (fun _ _ => rfl)))) de_int) de_int) de_int)))
    (dss_one (ds_ret (de_bin op_modN od_mod (de_bin op_fdivW od_div (de_bin op_modN od_mod (de_bin op_pow od_pow (de_bin or_add od_add (de_var 4 (pv 4)) (de_bin op_mul od_mulS de_int (de_ix ix_seq od_ix (de_var 0 (pv 0)) de_int (fun _ _ => rfl)))) de_int) de_int) de_int) (de_var 1 (pv 1))))))))))))
theorem ok_l_draw {f : Addr} {fd : FuncData} (hx : mg "_law_draw" = some (.ref f)) (F : Fun K "_law_draw" "_law_draw" s_l_draw f fd) (b : Binds K fd p_l_draw []) (B : Bt mg) : Df P w K mg base "_law_draw" 1 p_l_draw F_l_draw :=
  ⟨f, fd, hx, F.kp, b, okF_l_draw F B⟩
theorem okF_l_divisor {f : Addr} {fd : FuncData} (F : Fun K "_law_divisor" "_law_divisor" s_l_divisor f fd) (B : Bt mg) : FnD P w K mg base 1 f fd p_l_divisor F_l_divisor := by
    refine okD (k := 0) (N := N_l_divisor) F sc_l_divisor fun cdv A outer s H E hr hg => ?_
    have nd := sc_l_divisor.nd
    exact (dss_cons (ds_while (passes_of (by rfl)) (dt_cmp op_gt od_gt (de_var 1 (pv 1)) de_int (nomark _))
    (dss_one (ds_par (ps_par (i := 0) (j := 1) (by rfl) nd (by rfl) (by rfl) (by decide) (by rfl) (by rfl) (da_cons (de_var 1 (pv 1)) (da_cons (de_bin op_modN od_mod (de_var 0 (pv 0)) (de_var 1 (pv 1))) da_nil)) (by rfl)))))
    (dss_one (ds_ret (de_var 0 (pv 0)))))
theorem ok_l_divisor {f : Addr} {fd : FuncData} (hx : mg "_law_divisor" = some (.ref f)) (F : Fun K "_law_divisor" "_law_divisor" s_l_divisor f fd) (b : Binds K fd p_l_divisor []) (B : Bt mg) : Df P w K mg base "_law_divisor" 1 p_l_divisor F_l_divisor :=
  ⟨f, fd, hx, F.kp, b, okF_l_divisor F B⟩
theorem okF_l_made {f : Addr} {fd : FuncData} (F : Fun K "_law_made" "_law_made" s_l_made f fd) (B : Bt mg) (D_l_divisor : Df P w K mg base "_law_divisor" 1 p_l_divisor F_l_divisor) : FnD P w K mg base 2 f fd p_l_made F_l_made := by
    have D_l_divisor := D_l_divisor.mono (show _ ≤ 1 by omega)
    refine okD (k := 1) (N := N_l_made) F sc_l_made fun cdv A outer s H E hr hg => ?_
    have nd := sc_l_made.nd
    exact (dss_cons (ds_if (dt_cmp op_lt od_lt (de_var 1 (pv 1)) de_int (nomark _))
    (dss_one (ds_par (ps_par (i := 0) (j := 1) (by rfl) nd (by rfl) (by rfl) (by decide) (by rfl) (by rfl) (da_cons (de_bin op_sub od_sub de_int (de_var 0 (pv 0))) (da_cons (de_bin op_sub od_sub de_int (de_var 1 (pv 1))) da_nil)) (by rfl))))
    dss_nil)
    (dss_cons (ds_set (ps_set (i := 2) nd (by rfl) (Or.inl (by rfl)) (de_callD D_l_divisor hr hg (takes_of (by rfl) (by rfl) (by rfl) (by rfl)) (by rfl) (by rfl) (da_cons (de_cB cd_abs (pe_callB call_abs (by rfl) B.z_abs (by decide +kernel) (da_cons (de_var 0 (pv 0)) da_nil))) (da_cons (de_var 1 (pv 1)) da_nil)) (len_cons (len_cons len_nil)))))
    (dss_one (ds_ret (de_tup (da_cons (de_bin op_fdivW od_div (de_var 0 (pv 0)) (de_var 2 (pv 2))) (da_cons (de_bin op_fdivW od_div (de_var 1 (pv 1)) (de_var 2 (pv 2))) da_nil)))))))
theorem ok_l_made {f : Addr} {fd : FuncData} (hx : mg "_law_made" = some (.ref f)) (F : Fun K "_law_made" "_law_made" s_l_made f fd) (b : Binds K fd p_l_made []) (B : Bt mg) (D_l_divisor : Df P w K mg base "_law_divisor" 1 p_l_divisor F_l_divisor) : Df P w K mg base "_law_made" 2 p_l_made F_l_made :=
  ⟨f, fd, hx, F.kp, b, okF_l_made F B D_l_divisor⟩
theorem okF_l_fraction {f : Addr} {fd : FuncData} (F : Fun K "_law_fraction" "_law_fraction" s_l_fraction f fd) (B : Bt mg) (D_l_draw : Df P w K mg base "_law_draw" 1 p_l_draw F_l_draw) (D_l_made : Df P w K mg base "_law_made" 2 p_l_made F_l_made) : FnD P w K mg base 3 f fd p_l_fraction F_l_fraction := by
    have D_l_draw := D_l_draw.mono (show _ ≤ 2 by omega)
    have D_l_made := D_l_made.mono (show _ ≤ 2 by omega)
    refine okD (k := 2) (N := N_l_fraction) F sc_l_fraction fun cdv A outer s H E hr hg => ?_
    have nd := sc_l_fraction.nd
    exact (dss_cons (ds_set (ps_set (i := 1) nd (by rfl) (Or.inl (by rfl)) (de_ix ix_seq od_ix (de_data (df_lst (da_cons (de_bin op_sub od_sub (de_callD D_l_draw hr hg (takes_of (by rfl) (by rfl) (by rfl) (by rfl)) (by rfl) (by rfl) (da_cons (de_var 0 (pv 0)) (da_cons de_int da_nil)) (len_cons (len_cons len_nil))) de_int) (da_cons (de_bin op_sub od_sub (de_callD D_l_draw hr hg (takes_of (by rfl) (by rfl) (by rfl) (by rfl)) (by rfl) (by rfl) (da_cons (de_var 0 (pv 0)) (da_cons de_int da_nil)) (len_cons (len_cons len_nil))) de_int) (da_cons de_int (da_cons de_int (da_cons (de_neg de_int) da_nil))))))) (de_callD D_l_draw hr hg (takes_of (by rfl) (by rfl) (by rfl) (by rfl)) (by rfl) (by rfl) (da_cons (de_var 0 (pv 0)) (da_cons de_int da_nil)) (len_cons (len_cons len_nil))) (fun _ _ => rfl))))
    (dss_cons (ds_set (ps_set (i := 2) nd (by rfl) (Or.inl (by rfl)) (de_ix ix_seq od_ix (de_data (df_lst (da_cons de_int (da_cons (de_bin or_add od_add de_int (de_callD D_l_draw hr hg (takes_of (by rfl) (by rfl) (by rfl) (by rfl)) (by rfl) (by rfl) (da_cons (de_var 0 (pv 0)) (da_cons de_int da_nil)) (len_cons (len_cons len_nil)))) (da_cons (de_bin or_add od_add de_int (de_callD D_l_draw hr hg (takes_of (by rfl) (by rfl) (by rfl) (by rfl)) (by rfl) (by rfl) (da_cons (de_var 0 (pv 0)) (da_cons de_int da_nil)) (len_cons (len_cons len_nil)))) da_nil))))) (de_callD D_l_draw hr hg (takes_of (by rfl) (by rfl) (by rfl) (by rfl)) (by rfl) (by rfl) (da_cons (de_var 0 (pv 0)) (da_cons de_int da_nil)) (len_cons (len_cons len_nil))) (fun _ _ => rfl))))
    (dss_one (ds_ret (de_callD D_l_made hr hg (takes_of (by rfl) (by rfl) (by rfl) (by rfl)) (by rfl) (by rfl) (da_cons (de_var 1 (pv 1)) (da_cons (de_var 2 (pv 2)) da_nil)) (len_cons (len_cons len_nil)))))))
theorem ok_l_fraction {f : Addr} {fd : FuncData} (hx : mg "_law_fraction" = some (.ref f)) (F : Fun K "_law_fraction" "_law_fraction" s_l_fraction f fd) (b : Binds K fd p_l_fraction []) (B : Bt mg) (D_l_draw : Df P w K mg base "_law_draw" 1 p_l_draw F_l_draw) (D_l_made : Df P w K mg base "_law_made" 2 p_l_made F_l_made) : Df P w K mg base "_law_fraction" 3 p_l_fraction F_l_fraction :=
  ⟨f, fd, hx, F.kp, b, okF_l_fraction F B D_l_draw D_l_made⟩
theorem okF_l_is_right {f : Addr} {fd : FuncData} (F : Fun K "_law_is_right" "_law_is_right" s_l_is_right f fd) (B : Bt mg) (D_added : Df P w K mg base "added" 3 p_added F_added) (D_less : Df P w K mg base "less" 3 p_less F_less) (D_times : Df P w K mg base "times" 3 p_times F_times) (D_is_below : Df P w K mg base "is_below" 1 p_is_below F_is_below) (D_ratio : Df P w K mg base "ratio" 2 p_ratio F_ratio) (D_l_made : Df P w K mg base "_law_made" 2 p_l_made F_l_made) (D_parted : Df P w K mg base "parted" 3 p_parted F_parted) : FnD P w K mg base 4 f fd p_l_is_right F_l_is_right := by
    have D_added := D_added.mono (show _ ≤ 3 by omega)
    have D_less := D_less.mono (show _ ≤ 3 by omega)
    have D_times := D_times.mono (show _ ≤ 3 by omega)
    have D_is_below := D_is_below.mono (show _ ≤ 3 by omega)
    have D_ratio := D_ratio.mono (show _ ≤ 3 by omega)
    have D_l_made := D_l_made.mono (show _ ≤ 3 by omega)
    have D_parted := D_parted.mono (show _ ≤ 3 by omega)
    refine okD (k := 3) (N := N_l_is_right) F sc_l_is_right fun cdv A outer s H E hr hg => ?_
    have nd := sc_l_is_right.nd
    exact (dss_cons (ds_asg (sl := (((([2] ++ ([3] ++ []))) ++ ((([4] ++ ([5] ++ []))) ++ [])))) (de_tup (da_cons (de_var 0 (pv 0)) (da_cons (de_var 1 (pv 1)) da_nil))) (dg_tup (by rfl) (dgs_cons (dg_tup (by rfl) (dgs_cons (dg_name (pg_name (i := 2) nd (by rfl) (Or.inl (by rfl)))) (dgs_cons (dg_name (pg_name (i := 3) nd (by rfl) (Or.inl (by rfl)))) dgs_nil))) (dgs_cons (dg_tup (by rfl) (dgs_cons (dg_name (pg_name (i := 4) nd (by rfl) (Or.inl (by rfl)))) (dgs_cons (dg_name (pg_name (i := 5) nd (by rfl) (Or.inl (by rfl)))) dgs_nil))) dgs_nil))))
    (dss_cons (ds_set (ps_set (i := 6) nd (by rfl) (Or.inl (by rfl)) (de_cell (df_lst (da_cons (de_callD D_added hr hg (takes_of (by rfl) (by rfl) (by rfl) (by rfl)) (by rfl) (by rfl) (da_cons (de_var 0 (pv 0)) (da_cons (de_var 1 (pv 1)) da_nil)) (len_cons (len_cons len_nil))) (da_cons (de_callD D_less hr hg (takes_of (by rfl) (by rfl) (by rfl) (by rfl)) (by rfl) (by rfl) (da_cons (de_var 0 (pv 0)) (da_cons (de_var 1 (pv 1)) da_nil)) (len_cons (len_cons len_nil))) (da_cons (de_callD D_times hr hg (takes_of (by rfl) (by rfl) (by rfl) (by rfl)) (by rfl) (by rfl) (da_cons (de_var 0 (pv 0)) (da_cons (de_var 1 (pv 1)) da_nil)) (len_cons (len_cons len_nil))) (da_cons (de_callD D_is_below hr hg (takes_of (by rfl) (by rfl) (by rfl) (by rfl)) (by rfl) (by rfl) (da_cons (de_var 0 (pv 0)) (da_cons (de_var 1 (pv 1)) da_nil)) (len_cons (len_cons len_nil))) (da_cons (de_callD D_ratio hr hg (takes_of (by rfl) (by rfl) (by rfl) (by rfl)) (by rfl) (by rfl) (da_cons (de_var 2 (pv 2)) (da_cons (de_var 5 (pv 5)) da_nil)) (len_cons (len_cons len_nil))) (da_cons (de_callD D_ratio hr hg (takes_of (by rfl) (by rfl) (by rfl) (by rfl)) (by rfl) (by rfl) (da_cons (de_var 2 (pv 2)) (da_cons (de_bin op_sub od_sub de_int (de_var 3 (pv 3))) da_nil)) (len_cons (len_cons len_nil))) da_nil))))))))))
    (dss_cons (ds_set (ps_set (i := 7) nd (by rfl) (Or.inl (by rfl)) (de_cell (df_lst (da_cons (de_callD D_l_made hr hg (takes_of (by rfl) (by rfl) (by rfl) (by rfl)) (by rfl) (by rfl) (da_cons (de_bin or_add od_add (de_bin op_mulW od_mul (de_var 2 (pv 2)) (de_var 5 (pv 5))) (de_bin op_mulW od_mul (de_var 4 (pv 4)) (de_var 3 (pv 3)))) (da_cons (de_bin op_mulW od_mul (de_var 3 (pv 3)) (de_var 5 (pv 5))) da_nil)) (len_cons (len_cons len_nil))) (da_cons (de_callD D_l_made hr hg (takes_of (by rfl) (by rfl) (by rfl) (by rfl)) (by rfl) (by rfl) (da_cons (de_bin op_sub od_sub (de_bin op_mulW od_mul (de_var 2 (pv 2)) (de_var 5 (pv 5))) (de_bin op_mulW od_mul (de_var 4 (pv 4)) (de_var 3 (pv 3)))) (da_cons (de_bin op_mulW od_mul (de_var 3 (pv 3)) (de_var 5 (pv 5))) da_nil)) (len_cons (len_cons len_nil))) (da_cons (de_callD D_l_made hr hg (takes_of (by rfl) (by rfl) (by rfl) (by rfl)) (by rfl) (by rfl) (da_cons (de_bin op_mulW od_mul (de_var 2 (pv 2)) (de_var 4 (pv 4))) (da_cons (de_bin op_mulW od_mul (de_var 3 (pv 3)) (de_var 5 (pv 5))) da_nil)) (len_cons (len_cons len_nil))) (da_cons (de_cmp op_lt od_lt (de_bin op_sub od_sub (de_bin op_mulW od_mul (de_var 2 (pv 2)) (de_var 5 (pv 5))) (de_bin op_mulW od_mul (de_var 4 (pv 4)) (de_var 3 (pv 3)))) de_int (nomark _)) da_nil))))))))
    (dss_cons (ds_if (dt_cmp (op_neD hr.units) od_ne (de_var 4 (pv 4)) de_int (nomark _))
    (dss_one (ds_expr (de_mt md_app (pe_bm PySem.F.plainAttrs_list PySem.F.slot_list_append PySem.F.type_list_append mt_append (de_var 6 (pv 6)) (da_cons (de_callD D_parted hr hg (takes_of (by rfl) (by rfl) (by rfl) (by rfl)) (by rfl) (by rfl) (da_cons (de_var 0 (pv 0)) (da_cons (de_var 1 (pv 1)) da_nil)) (len_cons (len_cons len_nil))) da_nil)))))
    dss_nil)
    (dss_cons (ds_set (ps_set (i := 7) nd (by rfl) (Or.inl (by rfl)) (de_cell (df_cat (de_var 7 (pv 7)) (de_data (df_lst (da_cons (de_callD D_l_made hr hg (takes_of (by rfl) (by rfl) (by rfl) (by rfl)) (by rfl) (by rfl) (da_cons (de_var 2 (pv 2)) (da_cons (de_var 5 (pv 5)) da_nil)) (len_cons (len_cons len_nil))) (da_cons (de_callD D_l_made hr hg (takes_of (by rfl) (by rfl) (by rfl) (by rfl)) (by rfl) (by rfl) (da_cons (de_bin op_sub od_sub de_int (de_var 2 (pv 2))) (da_cons (de_var 3 (pv 3)) da_nil)) (len_cons (len_cons len_nil))) da_nil))))))))
    (dss_cons (ds_if (dt_cmp (op_neD hr.units) od_ne (de_var 4 (pv 4)) de_int (nomark _))
    (dss_one (ds_expr (de_mt md_app (pe_bm PySem.F.plainAttrs_list PySem.F.slot_list_append PySem.F.type_list_append mt_append (de_var 7 (pv 7)) (da_cons (de_callD D_l_made hr hg (takes_of (by rfl) (by rfl) (by rfl) (by rfl)) (by rfl) (by rfl) (da_cons (de_ix ix_seq od_ix (de_data (df_lst (da_cons (de_bin op_mulW od_mul (de_var 2 (pv 2)) (de_var 5 (pv 5))) (da_cons (de_bin op_sub od_sub de_int (de_bin op_mulW od_mul (de_var 2 (pv 2)) (de_var 5 (pv 5)))) da_nil)))) (de_cB cd_int (pe_callTy call_int1 (by rfl) B.z_int (by decide +kernel) (da_cons (de_cmp op_lt od_lt (de_var 4 (pv 4)) de_int (nomark _)) da_nil))) (fun _ _ => rfl)) (da_cons (de_bin op_mulW od_mul (de_var 3 (pv 3)) (de_cB cd_abs (pe_callB call_abs (by rfl) B.z_abs (by decide +kernel) (da_cons (de_var 4 (pv 4)) da_nil)))) da_nil)) (len_cons (len_cons len_nil))) da_nil)))))
    dss_nil)
    (dss_one (ds_ret (de_cmp (op_eqD hr.units) od_eq (de_cB cd_repr (pe_callB (call_repr hr hg) (by rfl) B.z_repr (by decide +kernel) (da_cons (de_var 6 (pv 6)) da_nil))) (de_cB cd_repr (pe_callB (call_repr hr hg) (by rfl) B.z_repr (by decide +kernel) (da_cons (de_var 7 (pv 7)) da_nil))) (nomark _))))))))))
theorem ok_l_is_right {f : Addr} {fd : FuncData} (hx : mg "_law_is_right" = some (.ref f)) (F : Fun K "_law_is_right" "_law_is_right" s_l_is_right f fd) (b : Binds K fd p_l_is_right []) (B : Bt mg) (D_added : Df P w K mg base "added" 3 p_added F_added) (D_less : Df P w K mg base "less" 3 p_less F_less) (D_times : Df P w K mg base "times" 3 p_times F_times) (D_is_below : Df P w K mg base "is_below" 1 p_is_below F_is_below) (D_ratio : Df P w K mg base "ratio" 2 p_ratio F_ratio) (D_l_made : Df P w K mg base "_law_made" 2 p_l_made F_l_made) (D_parted : Df P w K mg base "parted" 3 p_parted F_parted) : Df P w K mg base "_law_is_right" 4 p_l_is_right F_l_is_right :=
  ⟨f, fd, hx, F.kp, b, okF_l_is_right F B D_added D_less D_times D_is_below D_ratio D_l_made D_parted⟩
theorem okF_l_threes_right {f : Addr} {fd : FuncData} (F : Fun K "_law_threes_right" "_law_threes_right" s_l_threes_right f fd) (B : Bt mg) (D_added : Df P w K mg base "added" 3 p_added F_added) (D_times : Df P w K mg base "times" 3 p_times F_times) (D_less : Df P w K mg base "less" 3 p_less F_less) (D_parted : Df P w K mg base "parted" 3 p_parted F_parted) (D_is_below : Df P w K mg base "is_below" 1 p_is_below F_is_below) : FnD P w K mg base 4 f fd p_l_threes_right F_l_threes_right := by
    have D_added := D_added.mono (show _ ≤ 3 by omega)
    have D_times := D_times.mono (show _ ≤ 3 by omega)
    have D_less := D_less.mono (show _ ≤ 3 by omega)
    have D_parted := D_parted.mono (show _ ≤ 3 by omega)
    have D_is_below := D_is_below.mono (show _ ≤ 3 by omega)
    refine okD (k := 3) (N := N_l_threes_right) F sc_l_threes_right fun cdv A outer s H E hr hg => ?_
    have nd := sc_l_threes_right.nd
    have hu65 : A.units + 3 + 65 < cLine := by have := hr.un; simp only [Around.deeper] at this; omega
    exact (dss_cons (ds_if (DW.pt (dw_or (dt_cmp (op_neD hr.units) od_ne (de_callD D_added hr hg (takes_of (by rfl) (by rfl) (by rfl) (by rfl)) (by rfl) (by rfl) (da_cons (de_callD D_added hr hg (takes_of (by rfl) (by rfl) (by rfl) (by rfl)) (by rfl) (by rfl) (da_cons (de_var 0 (pv 0)) (da_cons (de_var 1 (pv 1)) da_nil)) (len_cons (len_cons len_nil))) (da_cons (de_var 2 (pv 2)) da_nil)) (len_cons (len_cons len_nil))) (de_callD D_added hr hg (takes_of (by rfl) (by rfl) (by rfl) (by rfl)) (by rfl) (by rfl) (da_cons (de_var 0 (pv 0)) (da_cons (de_callD D_added hr hg (takes_of (by rfl) (by rfl) (by rfl) (by rfl)) (by rfl) (by rfl) (da_cons (de_var 2 (pv 2)) (da_cons (de_var 1 (pv 1)) da_nil)) (len_cons (len_cons len_nil))) da_nil)) (len_cons (len_cons len_nil))) (nomark _)) (dw_or1 (dt_cmp (op_neD hr.units) od_ne (de_callD D_times hr hg (takes_of (by rfl) (by rfl) (by rfl) (by rfl)) (by rfl) (by rfl) (da_cons (de_callD D_times hr hg (takes_of (by rfl) (by rfl) (by rfl) (by rfl)) (by rfl) (by rfl) (da_cons (de_var 0 (pv 0)) (da_cons (de_var 1 (pv 1)) da_nil)) (len_cons (len_cons len_nil))) (da_cons (de_var 2 (pv 2)) da_nil)) (len_cons (len_cons len_nil))) (de_callD D_times hr hg (takes_of (by rfl) (by rfl) (by rfl) (by rfl)) (by rfl) (by rfl) (da_cons (de_var 0 (pv 0)) (da_cons (de_callD D_times hr hg (takes_of (by rfl) (by rfl) (by rfl) (by rfl)) (by rfl) (by rfl) (da_cons (de_var 2 (pv 2)) (da_cons (de_var 1 (pv 1)) da_nil)) (len_cons (len_cons len_nil))) da_nil)) (len_cons (len_cons len_nil))) (nomark _)))))
    (dss_one (ds_ret de_bl))
    dss_nil)
    (dss_cons (ds_if (DW.pt (dw_or (dt_cmp (op_neD hr.units) od_ne (de_callD D_times hr hg (takes_of (by rfl) (by rfl) (by rfl) (by rfl)) (by rfl) (by rfl) (da_cons (de_var 0 (pv 0)) (da_cons (de_callD D_less hr hg (takes_of (by rfl) (by rfl) (by rfl) (by rfl)) (by rfl) (by rfl) (da_cons (de_var 1 (pv 1)) (da_cons (de_var 2 (pv 2)) da_nil)) (len_cons (len_cons len_nil))) da_nil)) (len_cons (len_cons len_nil))) (de_callD D_less hr hg (takes_of (by rfl) (by rfl) (by rfl) (by rfl)) (by rfl) (by rfl) (da_cons (de_callD D_times hr hg (takes_of (by rfl) (by rfl) (by rfl) (by rfl)) (by rfl) (by rfl) (da_cons (de_var 0 (pv 0)) (da_cons (de_var 1 (pv 1)) da_nil)) (len_cons (len_cons len_nil))) (da_cons (de_callD D_times hr hg (takes_of (by rfl) (by rfl) (by rfl) (by rfl)) (by rfl) (by rfl) (da_cons (de_var 0 (pv 0)) (da_cons (de_var 2 (pv 2)) da_nil)) (len_cons (len_cons len_nil))) da_nil)) (len_cons (len_cons len_nil))) (nomark _)) (dw_or1 (dt_cmp (op_neD hr.units) od_ne (de_callD D_added hr hg (takes_of (by rfl) (by rfl) (by rfl) (by rfl)) (by rfl) (by rfl) (da_cons (de_callD D_less hr hg (takes_of (by rfl) (by rfl) (by rfl) (by rfl)) (by rfl) (by rfl) (da_cons (de_var 0 (pv 0)) (da_cons (de_var 1 (pv 1)) da_nil)) (len_cons (len_cons len_nil))) (da_cons (de_var 1 (pv 1)) da_nil)) (len_cons (len_cons len_nil))) (de_var 0 (pv 0)) (nomark _)))))
    (dss_one (ds_ret de_bl))
    dss_nil)
    (dss_cons (ds_if (DW.pt (dw_and (dt_cmp (op_neD hr.units) od_ne (de_ix ix_seq od_ix (de_var 1 (pv 1)) de_int (fun _ _ => rfl)) de_int (nomark _)) (dw_and1 (DW.pt (dw_or (dt_cmp (op_neD hr.units) od_ne (de_callD D_times hr hg (takes_of (by rfl) (by rfl) (by rfl) (by rfl)) (by rfl) (by rfl) (da_cons (de_callD D_parted hr hg (takes_of (by rfl) (by rfl) (by rfl) (by rfl)) (by rfl) (by rfl) (da_cons (de_var 0 (pv 0)) (da_cons (de_var 1 (pv 1)) da_nil)) (len_cons (len_cons len_nil))) (da_cons (de_var 1 (pv 1)) da_nil)) (len_cons (len_cons len_nil))) (de_var 0 (pv 0)) (nomark _)) (dw_or1 (dt_cmp (op_neD hr.units) od_ne (de_callD D_parted hr hg (takes_of (by rfl) (by rfl) (by rfl) (by rfl)) (by rfl) (by rfl) (da_cons (de_var 1 (pv 1)) (da_cons (de_var 1 (pv 1)) da_nil)) (len_cons (len_cons len_nil))) (de_tup (da_cons de_int (da_cons de_int da_nil))) (nomark _))))))))
    (dss_one (ds_ret de_bl))
    dss_nil)
    (dss_one (ds_ret (de_cmp (op_eqD hr.units) od_eq (de_look md_count (pe_bm PySem.F.plainAttrs_list PySem.F.slot_list_count PySem.F.type_list_count (mt_countD hu65) (de_data (df_lst (da_cons (de_callD D_is_below hr hg (takes_of (by rfl) (by rfl) (by rfl) (by rfl)) (by rfl) (by rfl) (da_cons (de_var 0 (pv 0)) (da_cons (de_var 1 (pv 1)) da_nil)) (len_cons (len_cons len_nil))) (da_cons (de_callD D_is_below hr hg (takes_of (by rfl) (by rfl) (by rfl) (by rfl)) (by rfl) (by rfl) (da_cons (de_var 1 (pv 1)) (da_cons (de_var 0 (pv 0)) da_nil)) (len_cons (len_cons len_nil))) (da_cons (de_cmp (op_eqD hr.units) od_eq (de_var 0 (pv 0)) (de_var 1 (pv 1)) (nomark _)) da_nil))))) (da_cons de_bl da_nil))) de_int (nomark _)))))))
theorem ok_l_threes_right {f : Addr} {fd : FuncData} (hx : mg "_law_threes_right" = some (.ref f)) (F : Fun K "_law_threes_right" "_law_threes_right" s_l_threes_right f fd) (b : Binds K fd p_l_threes_right []) (B : Bt mg) (D_added : Df P w K mg base "added" 3 p_added F_added) (D_times : Df P w K mg base "times" 3 p_times F_times) (D_less : Df P w K mg base "less" 3 p_less F_less) (D_parted : Df P w K mg base "parted" 3 p_parted F_parted) (D_is_below : Df P w K mg base "is_below" 1 p_is_below F_is_below) : Df P w K mg base "_law_threes_right" 4 p_l_threes_right F_l_threes_right :=
  ⟨f, fd, hx, F.kp, b, okF_l_threes_right F B D_added D_times D_less D_parted D_is_below⟩
theorem okF_l_great_right {f : Addr} {fd : FuncData} (F : Fun K "_law_great_right" "_law_great_right" s_l_great_right f fd) (B : Bt mg) (D_l_draw : Df P w K mg base "_law_draw" 1 p_l_draw F_l_draw) (D_ratio : Df P w K mg base "ratio" 2 p_ratio F_ratio) (D_l_made : Df P w K mg base "_law_made" 2 p_l_made F_l_made) (D_l_is_right : Df P w K mg base "_law_is_right" 4 p_l_is_right F_l_is_right) : FnD P w K mg base 5 f fd p_l_great_right F_l_great_right := by
    have D_l_draw := D_l_draw.mono (show _ ≤ 4 by omega)
    have D_ratio := D_ratio.mono (show _ ≤ 4 by omega)
    have D_l_made := D_l_made.mono (show _ ≤ 4 by omega)
    have D_l_is_right := D_l_is_right.mono (show _ ≤ 4 by omega)
    refine okD (k := 4) (N := N_l_great_right) F sc_l_great_right fun cdv A outer s H E hr hg => ?_
    have nd := sc_l_great_right.nd
    exact (dss_cons (ds_lcX [("_law_k", 6)] ([6]) (by rfl) nd (by rfl) (by decide) (blkOk_by (N := N_l_great_right) (sc := defScope s_l_great_right) (by decide +kernel)) (fun _ => rfl) (by rfl) (by rfl) (sw_true (by rfl) (by rfl) (by rfl) (by decide +kernel)) (di_range1 (pi_range1 (by rfl) B.z_range (da_cons de_int da_nil))) (fun _ _ _ _ _ => (dg_name (pg_name (i := 6) nd (by rfl) (Or.inl (by rfl))))) (fun _ _ _ _ _ => dts_nil) (fun _ _ _ _ _ => (de_bin or_add od_add (de_bin op_mulW od_mul (de_bin op_mulW od_mul (de_bin op_pow od_pow de_int de_int) (de_callD D_l_draw hr hg takes0 (by rfl) (by rfl) (da_cons (de_var 0 (pv 0)) (da_cons (de_bin op_pow od_pow de_int de_int) da_nil)) (len_cons (len_cons len_nil)))) (de_bin op_pow od_pow de_int de_int)) (de_bin op_mulW od_mul de_int (de_callD D_l_draw hr hg takes0 (by rfl) (by rfl) (da_cons (de_var 0 (pv 0)) (da_cons de_int da_nil)) (len_cons (len_cons len_nil)))))))
    (dss_cons (ds_par (ps_par (i := 2) (j := 3) (by rfl) nd (by rfl) (by rfl) (by decide) (by rfl) (by rfl) (da_cons (de_bin op_mulW od_mul (de_ix ix_seq od_ix (de_var 1 (pv 1)) de_int (fun _ _ => rfl)) (de_ix ix_seq od_ix (de_data (df_lst (da_cons de_int (da_cons (de_neg de_int) da_nil)))) (de_callD D_l_draw hr hg (takes_of (by rfl) (by rfl) (by rfl) (by rfl)) (by rfl) (by rfl) (da_cons (de_var 0 (pv 0)) (da_cons de_int da_nil)) (len_cons (len_cons len_nil))) (fun _ _ => rfl))) (da_cons (de_bin op_mulW od_mul (de_bin or_add od_add (de_ix ix_seq od_ix (de_var 1 (pv 1)) de_int (fun _ _ => rfl)) de_int) (de_ix ix_seq od_ix (de_data (df_lst (da_cons de_int (da_cons (de_neg de_int) (da_cons de_int da_nil))))) (de_callD D_l_draw hr hg (takes_of (by rfl) (by rfl) (by rfl) (by rfl)) (by rfl) (by rfl) (da_cons (de_var 0 (pv 0)) (da_cons de_int da_nil)) (len_cons (len_cons len_nil))) (fun _ _ => rfl))) da_nil)) (by rfl)))
    (dss_cons (ds_if (dt_cmp (op_neD hr.units) od_ne (de_cB cd_repr (pe_callB (call_repr hr hg) (by rfl) B.z_repr (by decide +kernel) (da_cons (de_data (df_lst (da_cons (de_callD D_ratio hr hg (takes_of (by rfl) (by rfl) (by rfl) (by rfl)) (by rfl) (by rfl) (da_cons (de_var 2 (pv 2)) (da_cons (de_var 3 (pv 3)) da_nil)) (len_cons (len_cons len_nil))) (da_cons (de_callD D_ratio hr hg (takes_of (by rfl) (by rfl) (by rfl) (by rfl)) (by rfl) (by rfl) (da_cons (de_var 3 (pv 3)) (da_cons (de_var 3 (pv 3)) da_nil)) (len_cons (len_cons len_nil))) (da_cons (de_callD D_ratio hr hg (takes_of (by rfl) (by rfl) (by rfl) (by rfl)) (by rfl) (by rfl) (da_cons (de_bin op_mulW od_mul (de_var 2 (pv 2)) de_int) (da_cons (de_var 3 (pv 3)) da_nil)) (len_cons (len_cons len_nil))) da_nil))))) da_nil))) (de_cB cd_repr (pe_callB (call_repr hr hg) (by rfl) B.z_repr (by decide +kernel) (da_cons (de_data (df_lst (da_cons (de_callD D_l_made hr hg (takes_of (by rfl) (by rfl) (by rfl) (by rfl)) (by rfl) (by rfl) (da_cons (de_var 2 (pv 2)) (da_cons (de_var 3 (pv 3)) da_nil)) (len_cons (len_cons len_nil))) (da_cons (de_tup (da_cons de_int (da_cons de_int da_nil))) (da_cons (de_callD D_l_made hr hg (takes_of (by rfl) (by rfl) (by rfl) (by rfl)) (by rfl) (by rfl) (da_cons (de_bin op_mulW od_mul (de_var 2 (pv 2)) de_int) (da_cons (de_var 3 (pv 3)) da_nil)) (len_cons (len_cons len_nil))) da_nil))))) da_nil))) (nomark _))
    (dss_one (ds_ret de_bl))
    dss_nil)
    (dss_cons (ds_set (ps_set (i := 4) nd (by rfl) (Or.inl (by rfl)) (de_callD D_l_made hr hg (takes_of (by rfl) (by rfl) (by rfl) (by rfl)) (by rfl) (by rfl) (da_cons (de_bin or_add od_add (de_bin op_pow od_pow de_int de_int) (de_callD D_l_draw hr hg (takes_of (by rfl) (by rfl) (by rfl) (by rfl)) (by rfl) (by rfl) (da_cons (de_var 0 (pv 0)) (da_cons (de_bin op_pow od_pow de_int de_int) da_nil)) (len_cons (len_cons len_nil)))) (da_cons (de_bin or_add od_add (de_bin or_add od_add (de_bin op_pow od_pow de_int de_int) de_int) (de_callD D_l_draw hr hg (takes_of (by rfl) (by rfl) (by rfl) (by rfl)) (by rfl) (by rfl) (da_cons (de_var 0 (pv 0)) (da_cons (de_bin op_pow od_pow de_int de_int) da_nil)) (len_cons (len_cons len_nil)))) da_nil)) (len_cons (len_cons len_nil)))))
    (dss_cons (ds_set (ps_set (i := 5) nd (by rfl) (Or.inl (by rfl)) (de_callD D_l_made hr hg (takes_of (by rfl) (by rfl) (by rfl) (by rfl)) (by rfl) (by rfl) (da_cons (de_bin op_sub od_sub (de_callD D_l_draw hr hg (takes_of (by rfl) (by rfl) (by rfl) (by rfl)) (by rfl) (by rfl) (da_cons (de_var 0 (pv 0)) (da_cons (de_bin op_pow od_pow de_int de_int) da_nil)) (len_cons (len_cons len_nil))) (de_bin op_mulW od_mul de_int (de_bin op_pow od_pow de_int de_int))) (da_cons (de_bin or_add od_add (de_bin or_add od_add (de_bin op_pow od_pow de_int de_int) de_int) (de_callD D_l_draw hr hg (takes_of (by rfl) (by rfl) (by rfl) (by rfl)) (by rfl) (by rfl) (da_cons (de_var 0 (pv 0)) (da_cons (de_bin op_pow od_pow de_int de_int) da_nil)) (len_cons (len_cons len_nil)))) da_nil)) (len_cons (len_cons len_nil)))))
    (dss_one (ds_ret (de_callD D_l_is_right hr hg (takes_of (by rfl) (by rfl) (by rfl) (by rfl)) (by rfl) (by rfl) (da_cons (de_var 4 (pv 4)) (da_cons (de_var 5 (pv 5)) da_nil)) (len_cons (len_cons len_nil))))))))))
theorem ok_l_great_right {f : Addr} {fd : FuncData} (hx : mg "_law_great_right" = some (.ref f)) (F : Fun K "_law_great_right" "_law_great_right" s_l_great_right f fd) (b : Binds K fd p_l_great_right []) (B : Bt mg) (D_l_draw : Df P w K mg base "_law_draw" 1 p_l_draw F_l_draw) (D_ratio : Df P w K mg base "ratio" 2 p_ratio F_ratio) (D_l_made : Df P w K mg base "_law_made" 2 p_l_made F_l_made) (D_l_is_right : Df P w K mg base "_law_is_right" 4 p_l_is_right F_l_is_right) : Df P w K mg base "_law_great_right" 5 p_l_great_right F_l_great_right :=
  ⟨f, fd, hx, F.kp, b, okF_l_great_right F B D_l_draw D_ratio D_l_made D_l_is_right⟩
theorem okF_law {f : Addr} {fd : FuncData} (F : Fun K "law" "law" s_law f fd) (B : Bt mg) (D_l_feed : Df P w K mg base "_law_feed" 1 p_l_feed F_l_feed) (D_l_fraction : Df P w K mg base "_law_fraction" 3 p_l_fraction F_l_fraction) (D_l_made : Df P w K mg base "_law_made" 2 p_l_made F_l_made) (D_l_is_right : Df P w K mg base "_law_is_right" 4 p_l_is_right F_l_is_right) (D_added : Df P w K mg base "added" 3 p_added F_added) (D_times : Df P w K mg base "times" 3 p_times F_times) (D_l_threes_right : Df P w K mg base "_law_threes_right" 4 p_l_threes_right F_l_threes_right) (D_l_great_right : Df P w K mg base "_law_great_right" 5 p_l_great_right F_l_great_right) : FnD P w K mg base 6 f fd p_law F_law := by
    have D_l_feed := D_l_feed.mono (show _ ≤ 5 by omega)
    have D_l_fraction := D_l_fraction.mono (show _ ≤ 5 by omega)
    have D_l_made := D_l_made.mono (show _ ≤ 5 by omega)
    have D_l_is_right := D_l_is_right.mono (show _ ≤ 5 by omega)
    have D_added := D_added.mono (show _ ≤ 5 by omega)
    have D_times := D_times.mono (show _ ≤ 5 by omega)
    have D_l_threes_right := D_l_threes_right.mono (show _ ≤ 5 by omega)
    have D_l_great_right := D_l_great_right.mono (show _ ≤ 5 by omega)
    refine okD (k := 5) (N := N_law) F sc_law fun cdv A outer s H E hr hg => ?_
    have nd := sc_law.nd
    exact (dss_cons (ds_set (ps_set (i := 1) nd (by rfl) (Or.inr (by rfl)) (de_callD D_l_feed hr hg (takes_of (by rfl) (by rfl) (by rfl) (by rfl)) (by rfl) (by rfl) (da_cons (de_var 0 (pv 0)) da_nil) (len_cons len_nil))))
    (dss_cons (ds_for (sl := [2]) (passes_of (by rfl)) (by rfl) (di_range1 (pi_range1 (by rfl) B.z_range (da_cons de_int da_nil))) (dg_name (pg_name (i := 2) nd (by rfl) (Or.inl (by rfl))))
    (dss_cons (ds_asg (sl := (([3] ++ ([4] ++ ([5] ++ []))))) (de_data (df_lcX [("_law_k", 8)] ([8]) (by rfl) nd (by rfl) (by decide) (blkOk_by (N := N_law) (sc := defScope s_law) (by decide +kernel)) (fun _ => rfl) (di_range1 (pi_range1 (by rfl) B.z_range (da_cons de_int da_nil))) (fun _ _ _ _ _ => (dg_name (pg_name (i := 8) nd (by rfl) (Or.inl (by rfl))))) (fun _ _ _ _ _ => dts_nil) (fun _ _ _ _ _ => (de_callD D_l_fraction hr hg takes0 (by rfl) (by rfl) (da_cons (de_var 1 (pv 1)) da_nil) (len_cons len_nil))))) (dg_unl (by rfl) (dgs_cons (dg_name (pg_name (i := 3) nd (by rfl) (Or.inl (by rfl)))) (dgs_cons (dg_name (pg_name (i := 4) nd (by rfl) (Or.inl (by rfl)))) (dgs_cons (dg_name (pg_name (i := 5) nd (by rfl) (Or.inl (by rfl)))) dgs_nil)))))
    (dss_cons (ds_set (ps_set (i := 6) nd (by rfl) (Or.inl (by rfl)) (de_callD D_l_made hr hg (takes_of (by rfl) (by rfl) (by rfl) (by rfl)) (by rfl) (by rfl) (da_cons (de_bin or_add od_add (de_bin op_mulW od_mul (de_ix ix_seq od_ix (de_var 3 (pv 3)) de_int (fun _ _ => rfl)) (de_ix ix_seq od_ix (de_var 4 (pv 4)) de_int (fun _ _ => rfl))) de_int) (da_cons (de_bin op_mulW od_mul (de_ix ix_seq od_ix (de_var 3 (pv 3)) de_int (fun _ _ => rfl)) (de_ix ix_seq od_ix (de_var 4 (pv 4)) de_int (fun _ _ => rfl))) da_nil)) (len_cons (len_cons len_nil)))))
    (dss_cons (ds_for (sl := [7]) (passes_of (by rfl)) (by rfl) (di_tup (de_tup (da_cons (de_tup (da_cons (de_var 3 (pv 3)) (da_cons (de_var 4 (pv 4)) da_nil))) (da_cons (de_tup (da_cons (de_var 4 (pv 4)) (da_cons (de_var 3 (pv 3)) da_nil))) (da_cons (de_tup (da_cons (de_var 3 (pv 3)) (da_cons (de_var 3 (pv 3)) da_nil))) (da_cons (de_tup (da_cons (de_var 3 (pv 3)) (da_cons (de_var 6 (pv 6)) da_nil))) (da_cons (de_tup (da_cons (de_var 6 (pv 6)) (da_cons (de_var 3 (pv 3)) da_nil))) (da_cons (de_tup (da_cons (de_var 3 (pv 3)) (da_cons (de_tup (da_cons de_int (da_cons de_int da_nil))) da_nil))) (da_cons (de_tup (da_cons (de_tup (da_cons de_int (da_cons de_int da_nil))) (da_cons (de_var 4 (pv 4)) da_nil))) da_nil))))))))) (dg_name (pg_name (i := 7) nd (by rfl) (Or.inl (by rfl))))
    (dss_one (ds_if (dt_not (dt_tru (de_callD D_l_is_right hr hg (takes_of (by rfl) (by rfl) (by rfl) (by rfl)) (by rfl) (by rfl) (da_cons (de_ix ix_seq od_ix (de_var 7 (pv 7)) de_int (fun _ _ => rfl)) (da_cons (de_ix ix_seq od_ix (de_var 7 (pv 7)) de_int (fun _ _ => rfl)) da_nil)) (len_cons (len_cons len_nil))) (fun _ => rfl)))
    (dss_one (ds_ret de_bl))
    dss_nil)))
    (dss_cons (ds_if (DW.pt (dw_or (dt_not (dt_tru (de_callD D_l_is_right hr hg (takes_of (by rfl) (by rfl) (by rfl) (by rfl)) (by rfl) (by rfl) (da_cons (de_callD D_added hr hg (takes_of (by rfl) (by rfl) (by rfl) (by rfl)) (by rfl) (by rfl) (da_cons (de_var 3 (pv 3)) (da_cons (de_var 4 (pv 4)) da_nil)) (len_cons (len_cons len_nil))) (da_cons (de_callD D_times hr hg (takes_of (by rfl) (by rfl) (by rfl) (by rfl)) (by rfl) (by rfl) (da_cons (de_var 6 (pv 6)) (da_cons (de_var 4 (pv 4)) da_nil)) (len_cons (len_cons len_nil))) da_nil)) (len_cons (len_cons len_nil))) (fun _ => rfl))) (dw_or1 (dt_not (dt_tru (de_callD D_l_threes_right hr hg (takes_of (by rfl) (by rfl) (by rfl) (by rfl)) (by rfl) (by rfl) (da_cons (de_var 3 (pv 3)) (da_cons (de_var 4 (pv 4)) (da_cons (de_var 5 (pv 5)) da_nil))) (len_cons (len_cons (len_cons len_nil)))) (fun _ => rfl))))))
    (dss_one (ds_ret de_bl))
    dss_nil)
    (dss_one (ds_if (dt_not (dt_tru (de_callD D_l_great_right hr hg (takes_of (by rfl) (by rfl) (by rfl) (by rfl)) (by rfl) (by rfl) (da_cons (de_var 1 (pv 1)) da_nil) (len_cons len_nil)) (fun _ => rfl)))
    (dss_one (ds_ret de_bl))
    dss_nil)))))))
    (dss_one (ds_ret de_bl))))
theorem ok_law {f : Addr} {fd : FuncData} (hx : mg "law" = some (.ref f)) (F : Fun K "law" "law" s_law f fd) (b : Binds K fd p_law []) (B : Bt mg) (D_l_feed : Df P w K mg base "_law_feed" 1 p_l_feed F_l_feed) (D_l_fraction : Df P w K mg base "_law_fraction" 3 p_l_fraction F_l_fraction) (D_l_made : Df P w K mg base "_law_made" 2 p_l_made F_l_made) (D_l_is_right : Df P w K mg base "_law_is_right" 4 p_l_is_right F_l_is_right) (D_added : Df P w K mg base "added" 3 p_added F_added) (D_times : Df P w K mg base "times" 3 p_times F_times) (D_l_threes_right : Df P w K mg base "_law_threes_right" 4 p_l_threes_right F_l_threes_right) (D_l_great_right : Df P w K mg base "_law_great_right" 5 p_l_great_right F_l_great_right) : Df P w K mg base "law" 6 p_law F_law :=
  ⟨f, fd, hx, F.kp, b, okF_law F B D_l_feed D_l_fraction D_l_made D_l_is_right D_added D_times D_l_threes_right D_l_great_right⟩
end
end Lw

namespace Lw
open PySem L2 DL PyProof.Rows
abbrev feed (ns : List Int) (a b t : Int) : Cell := .lst [.list (ns.map .int), .int a, .int b, .int t]
theorem eqv_nil {xs : List Int} (h : xs ≠ []) : PyData.eqv (.list (xs.map PyData.int)) (.list []) = false := by
  cases xs with
  | nil => exact absurd rfl h
  | cons x xs => simp [PyData.eqv, PyData.eqvAll]
def mixI (cell t : Int) : Int := Int.fmod ((Int.fmod ((Int.fmod cell 2147483629 + 7919 * t + 1) ^ 5) 2147483647 + 104729 * t) ^ 5) 2147483587 / 64
theorem draw_ok {ns : List Int} {a b t k : Int} {tl : Sto} (hl : ns.length ≤ 63) (h1 : 0 ≤ a) (h2 : 0 ≤ t) (h3 : t ≤ 10 ^ 9) (hk : 0 < k) (hk2 : k < 2 ^ 60) :
    ∃ r a' b', F_l_draw [.c 0, .d (.int k)] (feed ns a b t :: tl) = .ok (.d (.int r)) (feed ns a' b' (t + 1) :: tl) ∧ 0 ≤ r ∧ r < k ∧ 0 ≤ a' := by
  have hk9 : k.natAbs.log2 < 9000 := Nat.lt_trans (log2_lt (k := 60) (by decide) (by omega)) (by decide)
  have hk0 : k ≠ 0 := by omega
  have h64 : Nat.log2 64 < 9000 := by decide
  have hs1 := shaped_ints ns
  have hs2 := shaped_nil
  by_cases hb : 0 < b
  · refine ⟨b.fmod k, a, b / k, ?_, (fmod_lt hk).1, (fmod_lt hk).2, h1⟩
    unfold F_l_draw runB m_l_draw
    simp [gSet, cellL, hb, hk, hk9, hk0]
  · have hp1 : ∀ cell : Int, (cell.fmod 2147483629 + 7919 * (t + 1) + 1).natAbs < 18446744073709551616 := fun cell => by
      have := fmod_lt (a := cell) (b := 2147483629) (by decide)
      omega
    have hp2 : ∀ cell : Int, (((cell.fmod 2147483629 + 7919 * (t + 1) + 1) ^ 5).fmod 2147483647 + 104729 * (t + 1)).natAbs < 18446744073709551616 := fun cell => by
      have := fmod_lt (a := (cell.fmod 2147483629 + 7919 * (t + 1) + 1) ^ 5) (b := 2147483647) (by decide)
      omega
    by_cases hn : ns = []
    · subst hn
      have q1 := hp1 5
      have q2 := hp2 5
      refine ⟨(mixI 5 (t + 1)).fmod k, a + 1, b, ?_, (fmod_lt hk).1, (fmod_lt hk).2, by omega⟩
      unfold F_l_draw runB m_l_draw
      simp [-Int.reduceFMod, h64, gSet, cellL, hb, hk, hk9, hk0, hs2, PyData.eqv, PyData.eqvAll, okMulS, q1, q2, mixI]
    · have hlen : 0 < (ns.length : Int) := by
        cases ns with
        | nil => exact absurd rfl hn
        | cons x xs => simp only [List.length_cons]; omega
      have hlen0 : (ns.length : Int) ≠ 0 := by omega
      have hf := fmod_lt (a := a) hlen
      obtain ⟨cell, hc, _⟩ := atI_lt (xs := ns) hf.1 hf.2
      have hc2 : atI (ns.map PyData.int) (a.fmod ns.length) = some (.int cell) := by rw [atI_map, hc]; rfl
      have q1 := hp1 cell
      have q2 := hp2 cell
      have he := eqv_nil hn
      by_cases hg1 : 1000000000000000000 ≤ cell
      · by_cases hg2 : a + 1 ≤ ns.length
        · refine ⟨cell.fmod k, a + 1, cell / k, ?_, (fmod_lt hk).1, (fmod_lt hk).2, by omega⟩
          unfold F_l_draw runB m_l_draw
          simp [-Int.reduceFMod, h64, gSet, cellL, hb, hk, hk9, hk0, hs1, hs2, he, okMulS, hc2, hg1, hg2, hn]
        · refine ⟨(mixI cell (t + 1)).fmod k, a + 1, b, ?_, (fmod_lt hk).1, (fmod_lt hk).2, by omega⟩
          unfold F_l_draw runB m_l_draw
          simp [-Int.reduceFMod, h64, gSet, cellL, hb, hk, hk9, hk0, hs1, hs2, he, okMulS, hc2, hg1, hg2, q1, q2, mixI, hn]
      · refine ⟨(mixI cell (t + 1)).fmod k, a + 1, b, ?_, (fmod_lt hk).1, (fmod_lt hk).2, by omega⟩
        unfold F_l_draw runB m_l_draw
        simp [-Int.reduceFMod, h64, gSet, cellL, hb, hk, hk9, hk0, hs1, hs2, he, okMulS, hc2, hg1, q1, q2, mixI, hn]

end Lw

namespace Lw
open PySem L2 DL PyProof.Rows
/-! ### the divisor -/
theorem fmod_nat (x y : Nat) : (x : Int).fmod (y : Int) = ((x % y : Nat) : Int) := by
  rw [Int.fmod_eq_emod_of_nonneg _ (Int.natCast_nonneg y), Int.natCast_emod]
theorem gcd_step (x y : Nat) : Nat.gcd y (x % y) = Nat.gcd x y := by
  rw [Nat.gcd_comm x y, Nat.gcd_rec y x, Nat.gcd_comm]
theorem div_loop (m : Sto) : ∀ (n x y : Nat), y ≤ n → sWhile (dIsT (dBin gGt (dVar 1) (dC (.int 0)))) (sPar 0 1 (dCons (dVar 1) (dCons (dBin gMod (dVar 0) (dVar 1)) dNil))) [some (.d (.int x)), some (.d (.int y))] m =
    .nx [some (.d (.int (Nat.gcd x y : Nat))), some (.d (.int 0))] m
  | n, x, 0, _ => by
    rw [sWhile_turn]
    simp
  | 0, x, y + 1, h => by omega
  | n + 1, x, y + 1, h => by
    rw [sWhile_turn]
    have h0 : (0 : Int) < (y : Int) + 1 := by omega
    have h1 : ¬ ((y : Int) + 1 = 0) := by omega
    have hf : (x : Int).fmod ((y : Int) + 1) = ((x % (y + 1) : Nat) : Int) := fmod_nat x (y + 1)
    have ih := div_loop m n (y + 1) (x % (y + 1)) (by have := Nat.mod_lt x (show 0 < y + 1 by omega); omega)
    rw [gcd_step] at ih
    simp only [Int.natCast_emod, Int.natCast_add, Int.natCast_one] at ih hf
    simp [h0, h1, hf, ih]
theorem div2_loop (m : Sto) : ∀ (n x y : Nat), y ≤ n → sWhile (dIsT (dBin gNe (dVar 1) (dC (.int 0)))) (sPar 0 1 (dCons (dVar 1) (dCons (dBin gMod (dVar 0) (dVar 1)) dNil))) [some (.d (.int x)), some (.d (.int y))] m =
    .nx [some (.d (.int (Nat.gcd x y : Nat))), some (.d (.int 0))] m
  | n, x, 0, _ => by
    rw [sWhile_turn]
    simp [shaped_int, PyData.eqv]
  | 0, x, y + 1, h => by omega
  | n + 1, x, y + 1, h => by
    rw [sWhile_turn]
    have h1 : ¬ ((y : Int) + 1 = 0) := by omega
    have hf : (x : Int).fmod ((y : Int) + 1) = ((x % (y + 1) : Nat) : Int) := fmod_nat x (y + 1)
    have ih := div2_loop m n (y + 1) (x % (y + 1)) (by have := Nat.mod_lt x (show 0 < y + 1 by omega); omega)
    rw [gcd_step] at ih
    simp only [Int.natCast_emod, Int.natCast_add, Int.natCast_one] at ih hf
    simp [h1, hf, ih, shaped_int, PyData.eqv]
theorem l_div (m : Sto) (x y : Nat) : F_l_divisor [.d (.int x), .d (.int y)] m = .ok (.d (.int (Nat.gcd x y : Nat))) m := by
  unfold F_l_divisor runB m_l_divisor
  simp [div_loop m y x y (Nat.le_refl _)]
theorem c_div (m : Sto) (x y : Nat) : F_common_divisor [.d (.int x), .d (.int y)] m = .ok (.d (.int (Nat.gcd x y : Nat))) m := by
  unfold F_common_divisor runB m_common_divisor
  simp [div2_loop m y x y (Nat.le_refl _)]
end Lw

namespace Lw
open PySem L2 DL PyProof.Rows
/-! ### draws from a feed -/
def Fed (ns : List Int) (j : Nat) (c : Cell) : Prop := ns.length ≤ 63 ∧ ∃ a b t : Int, c = feed ns a b t ∧ 0 ≤ a ∧ 0 ≤ t ∧ t ≤ j
theorem Fed.mono {ns : List Int} {j j' : Nat} {c : Cell} (h : Fed ns j c) (hj : j ≤ j') : Fed ns j' c := by
  obtain ⟨h0, a, b, t, e, h1, h2, h3⟩ := h
  exact ⟨h0, a, b, t, e, h1, h2, by omega⟩
theorem fed_draw {ns : List Int} {j : Nat} {c : Cell} (h : Fed ns j c) (hj : j ≤ 10 ^ 9) (k : Int) (hk : 0 < k) (hk2 : k < 2 ^ 60) (tl : Sto) :
    ∃ (r : Int) (c' : Cell), F_l_draw [.c 0, .d (.int k)] (c :: tl) = .ok (.d (.int r)) (c' :: tl) ∧ Fed ns (j + 1) c' ∧ 0 ≤ r ∧ r < k := by
  obtain ⟨h0, a, b, t, rfl, h1, h2, h3⟩ := h
  obtain ⟨r, a', b', e, q1, q2, q3⟩ := draw_ok (b := b) (tl := tl) h0 h1 h2 (by omega) hk hk2
  exact ⟨r, feed ns a' b' (t + 1), e, ⟨h0, a', b', t + 1, rfl, q3, by omega, by omega⟩, q1, q2⟩
theorem pick {α : Type} {xs : List α} {n i : Int} (hn : n = xs.length) (h0 : 0 ≤ i) (h1 : i < n) : ∃ v, atI xs i = some v ∧ v ∈ xs := atI_lt h0 (by omega)
/-! ### fractions -/
theorem abs_eq (i : Int) : (if i < 0 then -i else i) = ((i.natAbs : Nat) : Int) := by split <;> omega
def fr (r : Rat) : D := .tuple [.int r.num, .int (r.den : Int)]
theorem fr_pos (a : Int) (n : Nat) (hn : 0 < n) : (Rat.divInt a n).num = a / (Nat.gcd a.natAbs n : Nat) ∧ (((Rat.divInt a n).den : Nat) : Int) = (n : Int) / (Nat.gcd a.natAbs n : Nat) := by
  rw [Rat.divInt_ofNat, Rat.num_mkRat, Rat.den_mkRat, if_neg (by omega), if_neg (by omega), Nat.gcd_comm]
  exact ⟨rfl, Int.natCast_ediv _ _⟩
theorem divInt_neg2 (a b : Int) : Rat.divInt (-a) (-b) = Rat.divInt a b := by
  rw [Rat.divInt_eq_div, Rat.divInt_eq_div, Rat.intCast_neg, Rat.intCast_neg]
  grind
theorem made_eq (a b : Int) (hb : b ≠ 0) (hs : b.natAbs < 2 ^ 8000) (m : Sto) : F_l_made [.d (.int a), .d (.int b)] m = .ok (.d (fr (Rat.divInt a b))) m := by
  have key : ∀ (x : Int) (n : Nat), 0 < n → n < 2 ^ 8000 → 0 < Nat.gcd x.natAbs n ∧ Nat.log2 (Nat.gcd x.natAbs n) < 9000 := fun x n h0 h1 => by
    have hg : 0 < Nat.gcd x.natAbs n := Nat.gcd_pos_of_pos_right _ h0
    have hl : Nat.gcd x.natAbs n ≤ n := Nat.gcd_le_right _ h0
    exact ⟨hg, Nat.lt_trans (log2_lt (k := 8000) (by decide) (Nat.lt_of_le_of_lt hl h1)) (by decide)⟩
  by_cases h : b < 0
  · obtain ⟨n, hn⟩ := Int.eq_ofNat_of_zero_le (show 0 ≤ 0 - b by omega)
    obtain ⟨k1, k2⟩ := key (0 - a) n (by omega) (by omega)
    have e := l_div m (0 - a).natAbs n
    obtain ⟨f1, f2⟩ := fr_pos (0 - a) n (by omega)
    have hq : Rat.divInt a b = Rat.divInt (0 - a) n := by
      rw [← hn, ← divInt_neg2]
      congr 1 <;> omega
    unfold F_l_made runB m_l_made
    rw [hq]
    unfold fr
    rw [f1, f2]
    simp only [s_seq, s_if, e_isT, e_bin, e_var, e_c]
    simp [h, -Int.zero_sub]
    have hn0 : 0 < n := by omega
    have ha : (0 - a).natAbs = a.natAbs := by omega
    rw [ha] at k2
    rw [hn, abs_eq, e]
    simp [k1, k2, hn0, line_eq]
  · obtain ⟨n, rfl⟩ := Int.eq_ofNat_of_zero_le (show 0 ≤ b by omega)
    obtain ⟨k1, k2⟩ := key a n (by omega) (by omega)
    have e := l_div m a.natAbs n
    obtain ⟨f1, f2⟩ := fr_pos a n (by omega)
    unfold F_l_made runB m_l_made
    unfold fr
    rw [f1, f2]
    simp [h]
    rw [abs_eq, e]
    simp [k1, k2, line_eq]
theorem fdiv_ex {a g : Int} (hg : g ≠ 0) (h : g ∣ a) : a.fdiv (-g) = (-a) / g := by
  obtain ⟨x, rfl⟩ := h
  have e1 : g * x = (-g) * (-x) := (Int.neg_mul_neg g x).symm
  rw [e1, Int.mul_fdiv_cancel_left _ (by omega)]
  have e2 : -(-g * -x) = g * (-x) := by rw [Int.neg_mul_neg, Int.mul_neg]
  rw [e2, Int.mul_ediv_cancel_left _ hg]
theorem ratio_eq (a b : Int) (hb : b ≠ 0) (hs : b.natAbs < 2 ^ 8000) (m : Sto) : F_ratio [.d (.int a), .d (.int b)] m = .ok (.d (fr (Rat.divInt a b))) m := by
  have key : ∀ (x : Int) (n : Nat), 0 < n → n < 2 ^ 8000 → 0 < Nat.gcd x.natAbs n ∧ Nat.log2 (Nat.gcd x.natAbs n) < 9000 := fun x n h0 h1 => by
    have hg : 0 < Nat.gcd x.natAbs n := Nat.gcd_pos_of_pos_right _ h0
    have hl : Nat.gcd x.natAbs n ≤ n := Nat.gcd_le_right _ h0
    exact ⟨hg, Nat.lt_trans (log2_lt (k := 8000) (by decide) (Nat.lt_of_le_of_lt hl h1)) (by decide)⟩
  have hb0 : 0 < b.natAbs := by omega
  obtain ⟨k1, k2⟩ := key a b.natAbs hb0 hs
  have e := c_div m a.natAbs b.natAbs
  have kg : ((Nat.gcd a.natAbs b.natAbs : Nat) : Int) ≠ 0 := by omega
  have d1 : ((Nat.gcd a.natAbs b.natAbs : Nat) : Int) ∣ a := Int.ofNat_dvd_left.mpr (Nat.gcd_dvd_left _ _)
  have d2 : ((Nat.gcd a.natAbs b.natAbs : Nat) : Int) ∣ b := Int.ofNat_dvd_left.mpr (Nat.gcd_dvd_right _ _)
  by_cases h : b < 0
  · obtain ⟨n, hn⟩ := Int.eq_ofNat_of_zero_le (show 0 ≤ 0 - b by omega)
    have hnb : b.natAbs = n := by omega
    obtain ⟨f1, f2⟩ := fr_pos (-a) n (by omega)
    have hq : Rat.divInt a b = Rat.divInt (-a) n := by
      rw [← hn, ← divInt_neg2]
      congr 1
      omega
    have q1 := fdiv_ex kg d1
    have q2 := fdiv_ex kg d2
    have ha : (-a).natAbs = a.natAbs := by omega
    have hbn : -b = (n : Int) := by omega
    rw [hnb] at e k1 k2 q1 q2
    rw [ha] at f1 f2
    rw [hbn] at q2
    have kn : ¬ (a = 0 ∧ n = 0) := by omega
    unfold F_ratio runB m_ratio
    rw [hq]
    unfold fr
    rw [f1, f2]
    simp only [s_seq, s_asg, e_call, e_cons, e_cb, e_var, e_nil]
    simp
    rw [abs_eq, abs_eq, hnb, e]
    simp [h, k2, q1, q2, line_eq, kn]
    all_goals omega
  · obtain ⟨n, rfl⟩ := Int.eq_ofNat_of_zero_le (show 0 ≤ b by omega)
    obtain ⟨f1, f2⟩ := fr_pos a n (by omega)
    have hnb : ((n : Int)).natAbs = n := by omega
    rw [hnb] at e k1 k2
    have kn : ¬ (a = 0 ∧ n = 0) := by omega
    have q1 := Int.fdiv_eq_ediv_of_nonneg a (Int.natCast_nonneg (Nat.gcd a.natAbs n))
    have q2 := Int.fdiv_eq_ediv_of_nonneg (n : Int) (Int.natCast_nonneg (Nat.gcd a.natAbs n))
    unfold F_ratio runB m_ratio
    unfold fr
    rw [f1, f2]
    simp only [s_seq, s_asg, e_call, e_cons, e_cb, e_var, e_nil]
    simp
    rw [abs_eq, abs_eq, hnb, e]
    simp [h, k1, k2, line_eq, kn, q1, q2]
    all_goals omega
end Lw

namespace Lw
open PySem L2 DL PyProof.Rows
/-! ### sizes -/
def Sz (n : Nat) (r : Rat) : Prop := r.num.natAbs < 2 ^ n ∧ r.den < 2 ^ n
theorem Sz.mono {n k : Nat} {r : Rat} (h : Sz n r) (hk : n ≤ k) : Sz k r := by
  have := Nat.pow_le_pow_right (n := 2) (by decide) hk
  exact ⟨Nat.lt_of_lt_of_le h.1 this, Nat.lt_of_lt_of_le h.2 this⟩
theorem divInt_le (a b : Int) (hb : b ≠ 0) : (Rat.divInt a b).num.natAbs ≤ a.natAbs ∧ (Rat.divInt a b).den ≤ b.natAbs := by
  have key : ∀ (x : Int) (n : Nat), 0 < n → (Rat.divInt x n).num.natAbs ≤ x.natAbs ∧ (Rat.divInt x n).den ≤ n := fun x n h0 => by
    obtain ⟨f1, f2⟩ := fr_pos x n h0
    rw [f1]
    refine ⟨Int.natAbs_ediv_le_natAbs _ _, ?_⟩
    rw [← Int.natCast_ediv] at f2
    have := Nat.div_le_self n (Nat.gcd x.natAbs n)
    omega
  by_cases h : b < 0
  · obtain ⟨n, hn⟩ := Int.eq_ofNat_of_zero_le (show 0 ≤ -b by omega)
    have := key (-a) n (by omega)
    rw [← hn, divInt_neg2] at this
    omega
  · obtain ⟨n, rfl⟩ := Int.eq_ofNat_of_zero_le (show 0 ≤ b by omega)
    have := key a n (by omega)
    omega
theorem mul_lt2 {a b : Int} {n k : Nat} (ha : a.natAbs < 2 ^ n) (hb : b.natAbs < 2 ^ k) : (a * b).natAbs < 2 ^ (n + k) := wide_lt ha hb
theorem add_lt2 {a b : Int} {n : Nat} (ha : a.natAbs < 2 ^ n) (hb : b.natAbs < 2 ^ n) : (a + b).natAbs < 2 ^ (n + 1) := by
  rw [Nat.pow_succ]
  omega
theorem sub_lt2 {a b : Int} {n : Nat} (ha : a.natAbs < 2 ^ n) (hb : b.natAbs < 2 ^ n) : (a - b).natAbs < 2 ^ (n + 1) := by
  rw [Nat.pow_succ]
  omega
theorem sz_div {a b : Int} {n : Nat} (hb : b ≠ 0) (h1 : a.natAbs < 2 ^ n) (h2 : b.natAbs < 2 ^ n) : Sz n (Rat.divInt a b) :=
  ⟨Nat.lt_of_le_of_lt (divInt_le a b hb).1 h1, Nat.lt_of_le_of_lt (divInt_le a b hb).2 h2⟩
theorem den_pos (r : Rat) : (0 : Int) < r.den := by have := r.den_nz; omega
theorem den_abs (r : Rat) : ((r.den : Int)).natAbs = r.den := Int.natAbs_natCast _
theorem den_ne (r s : Rat) : ((r.den : Int) * s.den) ≠ 0 := Int.mul_ne_zero (by have := den_pos r; omega) (by have := den_pos s; omega)
section
variable {r s : Rat} {n : Nat} (hr : Sz n r) (hs : Sz n s)
include hr hs
theorem sz_nd : (r.num * s.den).natAbs < 2 ^ (n + n) := mul_lt2 hr.1 (by rw [den_abs]; exact hs.2)
theorem sz_dd : ((r.den : Int) * s.den).natAbs < 2 ^ (n + n) := mul_lt2 (by rw [den_abs]; exact hr.2) (by rw [den_abs]; exact hs.2)
theorem sz_nn : (r.num * s.num).natAbs < 2 ^ (n + n) := mul_lt2 hr.1 hs.1
theorem sz_dn : ((r.den : Int) * s.num).natAbs < 2 ^ (n + n) := mul_lt2 (by rw [den_abs]; exact hr.2) hs.1
theorem sz_add : Sz (n + n + 1) (Rat.divInt (r.num * s.den + s.num * r.den) (r.den * s.den)) :=
  sz_div (den_ne r s) (add_lt2 (sz_nd hr hs) (sz_nd hs hr)) (Nat.lt_of_lt_of_le (sz_dd hr hs) (Nat.pow_le_pow_right (by decide) (by omega)))
theorem sz_sub : Sz (n + n + 1) (Rat.divInt (r.num * s.den - s.num * r.den) (r.den * s.den)) :=
  sz_div (den_ne r s) (sub_lt2 (sz_nd hr hs) (sz_nd hs hr)) (Nat.lt_of_lt_of_le (sz_dd hr hs) (Nat.pow_le_pow_right (by decide) (by omega)))
theorem sz_mul : Sz (n + n) (Rat.divInt (r.num * s.num) (r.den * s.den)) := sz_div (den_ne r s) (sz_nn hr hs) (sz_dd hr hs)
theorem sz_quo (h : s.num ≠ 0) : Sz (n + n) (Rat.divInt (r.num * s.den) (r.den * s.num)) := sz_div (Int.mul_ne_zero (by have := den_pos r; omega) h) (sz_nd hr hs) (sz_dn hr hs)
end
theorem okm {i j : Int} {n : Nat} (hn : n ≤ 4000) (h1 : i.natAbs < 2 ^ n) (h2 : j.natAbs < 2 ^ n) : okMul i j = true := by
  have e1 := log2_lt (k := 4000) (by decide) (Nat.lt_of_lt_of_le h1 (Nat.pow_le_pow_right (by decide) hn))
  have e2 := log2_lt (k := 4000) (by decide) (Nat.lt_of_lt_of_le h2 (Nat.pow_le_pow_right (by decide) hn))
  unfold okMul
  rw [decide_eq_true_eq]
  omega
theorem lt8 {x n : Nat} (h : x < 2 ^ n) (hn : n ≤ 8000) : x < 2 ^ 8000 := Nat.lt_of_lt_of_le h (Nat.pow_le_pow_right (by decide) hn)
section
variable {r s : Rat} {n : Nat} (hr : Sz n r) (hs : Sz n s) (hn : n ≤ 2000) (m : Sto)
include hr hs hn
theorem ok_nd : okMul r.num s.den = true := okm (n := n) (by omega) hr.1 (by rw [den_abs]; exact hs.2)
theorem ok_dd : okMul r.den s.den = true := okm (n := n) (by omega) (by rw [den_abs]; exact hr.2) (by rw [den_abs]; exact hs.2)
theorem ok_nn : okMul r.num s.num = true := okm (n := n) (by omega) hr.1 hs.1
theorem ok_dn : okMul r.den s.num = true := okm (n := n) (by omega) (by rw [den_abs]; exact hr.2) hs.1
theorem added_eq : F_added [.d (fr r), .d (fr s)] m = .ok (.d (fr (Rat.divInt (r.num * s.den + s.num * r.den) (r.den * s.den)))) m := by
  have e := ratio_eq (r.num * s.den + s.num * r.den) (r.den * s.den) (den_ne r s) (lt8 (sz_dd hr hs) (by omega)) m
  unfold F_added runB m_added
  rw [show fr r = .tuple [.int r.num, .int r.den] from rfl, show fr s = .tuple [.int s.num, .int s.den] from rfl]
  simp [ok_nd hr hs hn, ok_nd hs hr hn, ok_dd hr hs hn, e]
theorem less_eq : F_less [.d (fr r), .d (fr s)] m = .ok (.d (fr (Rat.divInt (r.num * s.den - s.num * r.den) (r.den * s.den)))) m := by
  have e := ratio_eq (r.num * s.den - s.num * r.den) (r.den * s.den) (den_ne r s) (lt8 (sz_dd hr hs) (by omega)) m
  unfold F_less runB m_less
  rw [show fr r = .tuple [.int r.num, .int r.den] from rfl, show fr s = .tuple [.int s.num, .int s.den] from rfl]
  simp [ok_nd hr hs hn, ok_nd hs hr hn, ok_dd hr hs hn, e]
theorem times_eq : F_times [.d (fr r), .d (fr s)] m = .ok (.d (fr (Rat.divInt (r.num * s.num) (r.den * s.den)))) m := by
  have e := ratio_eq (r.num * s.num) (r.den * s.den) (den_ne r s) (lt8 (sz_dd hr hs) (by omega)) m
  unfold F_times runB m_times
  rw [show fr r = .tuple [.int r.num, .int r.den] from rfl, show fr s = .tuple [.int s.num, .int s.den] from rfl]
  simp [ok_nn hr hs hn, ok_dd hr hs hn, e]
theorem parted_eq (h : s.num ≠ 0) : F_parted [.d (fr r), .d (fr s)] m = .ok (.d (fr (Rat.divInt (r.num * s.den) (r.den * s.num)))) m := by
  have e := ratio_eq (r.num * s.den) (r.den * s.num) (Int.mul_ne_zero (by have := den_pos r; omega) h) (lt8 (sz_dn hr hs) (by omega)) m
  unfold F_parted runB m_parted
  rw [show fr r = .tuple [.int r.num, .int r.den] from rfl, show fr s = .tuple [.int s.num, .int s.den] from rfl]
  simp [ok_nd hr hs hn, ok_dn hr hs hn, e]
theorem below_eq : F_is_below [.d (fr r), .d (fr s)] m = .ok (.d (.bool (decide (r.num * s.den < s.num * r.den)))) m := by
  unfold F_is_below runB m_is_below
  rw [show fr r = .tuple [.int r.num, .int r.den] from rfl, show fr s = .tuple [.int s.num, .int s.den] from rfl]
  simp [ok_nd hr hs hn, ok_nd hs hr hn]
end
end Lw

namespace Lw
open PySem L2 DL PyProof.Rows
/-! ### one pair -/
theorem good_fr {n : Nat} {r : Rat} (h : Sz n r) (hn : n ≤ 1850) : Good 1 3720 (fr r) := by
  have h1 := h.mono hn
  exact t2 (good_int (j := 1850) (by decide) (by decide) h1.1) (good_int (j := 1850) (by decide) (by decide) (by rw [den_abs]; exact h1.2)) (by decide) (by decide) (by decide)
theorem sz_1 {n : Nat} {a b : Rat} (ha : Sz n a) (hb : Sz n b) : Sz n (Rat.divInt a.num b.den) := sz_div (by have := den_pos b; omega) ha.1 (by rw [den_abs]; exact hb.2)
theorem neg_den (a : Rat) : Rat.divInt a.num (0 - a.den) = Rat.divInt (0 - a.num) a.den := by
  rw [← divInt_neg2]
  congr 1 <;> omega
@[simp] theorem t_fr (h : List W → Rho → Sto → Option (Rho × Sto)) (q : Rat) (r : Rho) (m : Sto) : gT 2 h (.d (fr q)) r m = h [.d (.int q.num), .d (.int q.den)] r m := rfl
theorem sub_i (i j : Int) (m : Sto) : DL.gSub (.d (.int i)) (.d (.int j)) m = some (.d (.int (i - j))) := rfl
theorem right_ok {a b : Rat} (ha : Sz 900 a) (hb : Sz 900 b) (m : Sto) : ∃ tl, F_l_is_right [.d (fr a), .d (fr b)] m = .ok (.d (.bool true)) (m ++ tl) := by
  have z := fun m => added_eq ha hb (by omega) m
  have e1 := fun m => added_eq ha hb (by omega) m
  have e2 := fun m => less_eq ha hb (by omega) m
  have e3 := fun m => times_eq ha hb (by omega) m
  have e4 := fun m => below_eq ha hb (by omega) m
  have dd := lt8 (sz_dd ha hb) (by omega)
  have bn : (b.den : Int) ≠ 0 := by have := den_pos b; omega
  have an : (a.den : Int) ≠ 0 := by have := den_pos a; omega
  have an2 : (0 - (a.den : Int)) ≠ 0 := by omega
  have as : ((a.den : Int)).natAbs < 2 ^ 8000 := by rw [den_abs]; exact lt8 ha.2 (by omega)
  have bs : ((b.den : Int)).natAbs < 2 ^ 8000 := by rw [den_abs]; exact lt8 hb.2 (by omega)
  have as2 : (0 - (a.den : Int)).natAbs < 2 ^ 8000 := by rw [show (0 - (a.den : Int)).natAbs = ((a.den : Int)).natAbs by omega]; exact as
  have e5 := fun m => ratio_eq a.num b.den bn bs m
  have e6 := fun m => ratio_eq a.num (0 - a.den) an2 as2 m
  have d1 := fun m => made_eq (a.num * b.den + b.num * a.den) (a.den * b.den) (den_ne a b) dd m
  have d2 := fun m => made_eq (a.num * b.den - b.num * a.den) (a.den * b.den) (den_ne a b) dd m
  have d3 := fun m => made_eq (a.num * b.num) (a.den * b.den) (den_ne a b) dd m
  have d5 := fun m => made_eq a.num b.den bn bs m
  have d6 := fun m => made_eq (0 - a.num) a.den an as m
  have hbool : decide (a.num * b.den < b.num * a.den) = decide (a.num * b.den - b.num * a.den < 0) := by
    rw [decide_eq_decide]
    omega
  have k1 := ok_nd ha hb (by omega)
  have k2 := ok_nd hb ha (by omega)
  have k3 := ok_dd ha hb (by omega)
  have k4 := ok_nn ha hb (by omega)
  have k5 := ok_dn ha hb (by omega)
  have g1 := good_fr (sz_add ha hb) (by omega)
  have g2 := good_fr (sz_sub ha hb) (by omega)
  have g3 := good_fr (sz_mul ha hb) (by omega)
  have g5 := good_fr (sz_1 ha hb) (by omega)
  have g6 := good_fr (sz_div (n := 900) (a := 0 - a.num) an (by rw [show (0 - a.num).natAbs = a.num.natAbs by omega]; exact ha.1) (by rw [den_abs]; exact ha.2)) (by omega)
  have hl : (sizeLine : Nat) = 16777216 := line_eq
  have hz : 6 ≤ sizeLine := by rw [hl]; decide
  have hz4 : 4 ≤ sizeLine := by rw [hl]; decide
  have hz2 : 2 ≤ sizeLine := by rw [hl]; decide
  have hz0 : 6 < sizeLine := by rw [hl]; decide
  by_cases hc : b.num = 0
  · have hg : Good 2 30000 (.list [fr (Rat.divInt (a.num * b.den + b.num * a.den) (a.den * b.den)), fr (Rat.divInt (a.num * b.den - b.num * a.den) (a.den * b.den)), fr (Rat.divInt (a.num * b.num) (a.den * b.den)), .bool (decide (a.num * b.den - b.num * a.den < 0)), fr (Rat.divInt a.num b.den), fr (Rat.divInt (0 - a.num) a.den)]) :=
      (goodA_all (k := 1) (n := 3720) (by
        intro x hx
        simp only [List.mem_cons, List.not_mem_nil, or_false] at hx
        rcases hx with rfl | rfl | rfl | rfl | rfl | rfl
        · exact g1
        · exact g2
        · exact g3
        · exact (DL.good_bool _).mono (by omega) (by omega)
        · exact g5
        · exact g6)).lst.mono (by omega) (by simp)
    have hs1 := hg.show (by omega) (by omega)
    have hs2 := shaped_str (fine_shown _ hg.fin)
    generalize fr (Rat.divInt (a.num * b.den + b.num * a.den) (a.den * b.den)) = T1 at *
    generalize fr (Rat.divInt (a.num * b.den - b.num * a.den) (a.den * b.den)) = T2 at *
    generalize fr (Rat.divInt (a.num * b.num) (a.den * b.den)) = T3 at *
    generalize fr (Rat.divInt a.num b.den) = T5 at *
    rw [neg_den] at e6
    generalize fr (Rat.divInt (0 - a.num) a.den) = T6 at *
    rw [hbool] at e4
    have hlt : gLt (.d (.int (a.num * b.den - b.num * a.den))) (.d (.int 0)) = fun _ => some (.d (.bool (decide (a.num * b.den - b.num * a.den < 0)))) := rfl
    generalize decide (a.num * b.den - b.num * a.den < 0) = B4 at *
    unfold F_l_is_right runB m_l_is_right
    simp [-Int.zero_sub, -Rat.num_eq_zero, -gI0_i, hlt, sub_i, e1, e2, e3, e4, e5, e6, d1, d2, d3, d5, d6, k1, k2, k3, k4, k5, hz, hz4, hz2, shaped_int, eqv_int, cellL, gApp, hs1, hs2, str_eqv, if_pos hc]
  · have e7 := fun m => parted_eq ha hb (by omega) m hc
    have g7 := good_fr (sz_quo ha hb hc) (by omega)
    have okneg : okMul a.den (-b.num) = true := okm (n := 900) (by omega) (by rw [den_abs]; exact ha.2) (by rw [Int.natAbs_neg]; exact hb.1)
    have hz4' : 4 < sizeLine := by rw [hl]; decide
    have hz7 : 7 ≤ sizeLine := by rw [hl]; decide
    have hg : Good 2 30000 (.list [fr (Rat.divInt (a.num * b.den + b.num * a.den) (a.den * b.den)), fr (Rat.divInt (a.num * b.den - b.num * a.den) (a.den * b.den)), fr (Rat.divInt (a.num * b.num) (a.den * b.den)), .bool (decide (a.num * b.den - b.num * a.den < 0)), fr (Rat.divInt a.num b.den), fr (Rat.divInt (0 - a.num) a.den), fr (Rat.divInt (a.num * b.den) (a.den * b.num))]) :=
      (goodA_all (k := 1) (n := 3720) (by
        intro x hx
        simp only [List.mem_cons, List.not_mem_nil, or_false] at hx
        rcases hx with rfl | rfl | rfl | rfl | rfl | rfl | rfl
        · exact g1
        · exact g2
        · exact g3
        · exact (DL.good_bool _).mono (by omega) (by omega)
        · exact g5
        · exact g6
        · exact g7)).lst.mono (by omega) (by simp)
    have hs1 := hg.show (by omega) (by omega)
    have hs2 := shaped_str (fine_shown _ hg.fin)
    by_cases h0 : b.num < 0
    · skip
      have ey : (a.den * -b.num).natAbs = ((a.den : Int) * b.num).natAbs := by simp [Int.natAbs_mul]
      have d7 := fun m => made_eq (0 - a.num * b.den) (a.den * -b.num) (by rw [← Int.natAbs_ne_zero, ey, Int.natAbs_ne_zero]; exact Int.mul_ne_zero an hc) (by rw [ey]; exact lt8 (sz_dn ha hb) (by omega)) m
      have eq7 : Rat.divInt (0 - a.num * b.den) (a.den * -b.num) = Rat.divInt (a.num * b.den) (a.den * b.num) := by
        rw [show 0 - a.num * b.den = -(a.num * b.den) from Int.zero_sub _, Int.mul_neg, divInt_neg2]
      rw [eq7] at d7
      generalize fr (Rat.divInt (a.num * b.den + b.num * a.den) (a.den * b.den)) = T1 at *
      generalize fr (Rat.divInt (a.num * b.den - b.num * a.den) (a.den * b.den)) = T2 at *
      generalize fr (Rat.divInt (a.num * b.num) (a.den * b.den)) = T3 at *
      generalize fr (Rat.divInt a.num b.den) = T5 at *
      rw [neg_den] at e6
      generalize fr (Rat.divInt (0 - a.num) a.den) = T6 at *
      generalize fr (Rat.divInt (a.num * b.den) (a.den * b.num)) = T7 at *
      rw [hbool] at e4
      have hlt : gLt (.d (.int (a.num * b.den - b.num * a.den))) (.d (.int 0)) = fun _ => some (.d (.bool (decide (a.num * b.den - b.num * a.den < 0)))) := rfl
      have hlt2 : gLt (.d (.int b.num)) (.d (.int 0)) = fun _ => some (.d (.bool true)) := by
        funext m
        show some (W.d (.bool (decide (b.num < 0)))) = _
        rw [decide_eq_true h0]
      generalize decide (a.num * b.den - b.num * a.den < 0) = B4 at *
      unfold F_l_is_right runB m_l_is_right
      simp [-Int.zero_sub, -Rat.num_eq_zero, -gI0_i, hlt, hlt2, sub_i, e1, e2, e3, e4, e5, e6, e7, d1, d2, d3, d5, d6, d7, k1, k2, k3, k4, k5, okneg, hz, hz4, hz2, hz0, hz4', hz7, shaped_int, eqv_int, cellL, gApp, hs1, hs2, str_eqv, if_neg hc, if_pos h0]
    · skip
      have ey : ((a.den : Int) * b.num).natAbs = ((a.den : Int) * b.num).natAbs := by simp [Int.natAbs_mul]
      have d7 := fun m => made_eq (a.num * b.den) (a.den * b.num) (by rw [← Int.natAbs_ne_zero, ey, Int.natAbs_ne_zero]; exact Int.mul_ne_zero an hc) (by rw [ey]; exact lt8 (sz_dn ha hb) (by omega)) m
      have eq7 : Rat.divInt (a.num * b.den) (a.den * b.num) = Rat.divInt (a.num * b.den) (a.den * b.num) := by
        rfl
      rw [eq7] at d7
      generalize fr (Rat.divInt (a.num * b.den + b.num * a.den) (a.den * b.den)) = T1 at *
      generalize fr (Rat.divInt (a.num * b.den - b.num * a.den) (a.den * b.den)) = T2 at *
      generalize fr (Rat.divInt (a.num * b.num) (a.den * b.den)) = T3 at *
      generalize fr (Rat.divInt a.num b.den) = T5 at *
      rw [neg_den] at e6
      generalize fr (Rat.divInt (0 - a.num) a.den) = T6 at *
      generalize fr (Rat.divInt (a.num * b.den) (a.den * b.num)) = T7 at *
      rw [hbool] at e4
      have hlt : gLt (.d (.int (a.num * b.den - b.num * a.den))) (.d (.int 0)) = fun _ => some (.d (.bool (decide (a.num * b.den - b.num * a.den < 0)))) := rfl
      have hlt2 : gLt (.d (.int b.num)) (.d (.int 0)) = fun _ => some (.d (.bool false)) := by
        funext m
        show some (W.d (.bool (decide (b.num < 0)))) = _
        rw [decide_eq_false h0]
      generalize decide (a.num * b.den - b.num * a.den < 0) = B4 at *
      unfold F_l_is_right runB m_l_is_right
      simp [-Int.zero_sub, -Rat.num_eq_zero, -gI0_i, hlt, hlt2, sub_i, e1, e2, e3, e4, e5, e6, e7, d1, d2, d3, d5, d6, d7, k1, k2, k3, k4, k5, okneg, hz, hz4, hz2, hz0, hz4', hz7, shaped_int, eqv_int, cellL, gApp, hs1, hs2, str_eqv, if_neg hc, if_neg h0]
end Lw

namespace Lw
open PySem L2 DL PyProof.Rows
/-! ### threes -/
theorem as_quo (r : Rat) : r = (r.num : Rat) / (r.den : Rat) ∧ (r.den : Rat) ≠ 0 := by
  refine ⟨?_, fun h => r.den_nz (Rat.natCast_eq_zero_iff.mp h)⟩
  have := Rat.num_divInt_den r
  rw [Rat.divInt_eq_div, Rat.intCast_natCast] at this
  exact this.symm
theorem rat_add (r s : Rat) : Rat.divInt (r.num * s.den + s.num * r.den) (r.den * s.den) = r + s := by
  obtain ⟨h1, h2⟩ := as_quo r
  obtain ⟨h3, h4⟩ := as_quo s
  rw [Rat.divInt_eq_div, Rat.intCast_add, Rat.intCast_mul, Rat.intCast_mul, Rat.intCast_mul, Rat.intCast_natCast, Rat.intCast_natCast]
  generalize (r.num : Rat) = a at *
  generalize (r.den : Rat) = b at *
  generalize (s.num : Rat) = c at *
  generalize (s.den : Rat) = d at *
  subst h1 h3
  grind
theorem rat_sub (r s : Rat) : Rat.divInt (r.num * s.den - s.num * r.den) (r.den * s.den) = r - s := by
  obtain ⟨h1, h2⟩ := as_quo r
  obtain ⟨h3, h4⟩ := as_quo s
  rw [Rat.divInt_eq_div, Rat.intCast_sub, Rat.intCast_mul, Rat.intCast_mul, Rat.intCast_mul, Rat.intCast_natCast, Rat.intCast_natCast]
  generalize (r.num : Rat) = a at *
  generalize (r.den : Rat) = b at *
  generalize (s.num : Rat) = c at *
  generalize (s.den : Rat) = d at *
  subst h1 h3
  grind
theorem rat_mul (r s : Rat) : Rat.divInt (r.num * s.num) (r.den * s.den) = r * s := by
  obtain ⟨h1, h2⟩ := as_quo r
  obtain ⟨h3, h4⟩ := as_quo s
  rw [Rat.divInt_eq_div, Rat.intCast_mul, Rat.intCast_mul, Rat.intCast_natCast, Rat.intCast_natCast]
  generalize (r.num : Rat) = a at *
  generalize (r.den : Rat) = b at *
  generalize (s.num : Rat) = c at *
  generalize (s.den : Rat) = d at *
  subst h1 h3
  grind
theorem rat_quo (r s : Rat) (h : s.num ≠ 0) : Rat.divInt (r.num * s.den) (r.den * s.num) = r / s := by
  obtain ⟨h1, h2⟩ := as_quo r
  obtain ⟨h3, h4⟩ := as_quo s
  have h5 : (s.num : Rat) ≠ 0 := fun z => h (Rat.intCast_eq_zero_iff.mp z)
  rw [Rat.divInt_eq_div, Rat.intCast_mul, Rat.intCast_mul, Rat.intCast_natCast, Rat.intCast_natCast]
  generalize (r.num : Rat) = a at *
  generalize (r.den : Rat) = b at *
  generalize (s.num : Rat) = c at *
  generalize (s.den : Rat) = d at *
  subst h1 h3
  grind
section
variable {r s : Rat} {n : Nat} (hr : Sz n r) (hs : Sz n s)
include hr hs
theorem zz_add : Sz (n + n + 1) (r + s) := by have := sz_add hr hs; rwa [rat_add] at this
theorem zz_sub : Sz (n + n + 1) (r - s) := by have := sz_sub hr hs; rwa [rat_sub] at this
theorem zz_mul : Sz (n + n) (r * s) := by have := sz_mul hr hs; rwa [rat_mul] at this
theorem zz_quo (h : s.num ≠ 0) : Sz (n + n) (r / s) := by have := sz_quo hr hs h; rwa [rat_quo r s h] at this
variable (hn : n ≤ 900) (m : Sto)
include hn
theorem c_add : F_added [.d (fr r), .d (fr s)] m = .ok (.d (fr (r + s))) m := by have := added_eq hr hs (by omega) m; rwa [rat_add] at this
theorem c_sub : F_less [.d (fr r), .d (fr s)] m = .ok (.d (fr (r - s))) m := by have := less_eq hr hs (by omega) m; rwa [rat_sub] at this
theorem c_mul : F_times [.d (fr r), .d (fr s)] m = .ok (.d (fr (r * s))) m := by have := times_eq hr hs (by omega) m; rwa [rat_mul] at this
theorem c_quo (h : s.num ≠ 0) : F_parted [.d (fr r), .d (fr s)] m = .ok (.d (fr (r / s))) m := by have := parted_eq hr hs (by omega) m h; rwa [rat_quo r s h] at this
theorem c_lt : F_is_below [.d (fr r), .d (fr s)] m = .ok (.d (.bool (decide (r < s)))) m := by
  rw [below_eq hr hs (by omega) m, decide_eq_decide.mpr (Rat.lt_iff r s)]
end
theorem eqv_fr (r s : Rat) : PyData.eqv (fr r) (fr s) = decide (r = s) := by
  have e : PyData.eqv (fr r) (fr s) = ((r.num == s.num) && ((r.den : Int) == s.den)) := by simp [fr, PyData.eqv, PyData.eqvAll]
  rw [e, Bool.eq_iff_iff]
  simp only [Bool.and_eq_true, beq_iff_eq, decide_eq_true_eq]
  constructor
  · rintro ⟨h1, h2⟩
    exact Rat.ext h1 (by omega)
  · rintro rfl
    exact ⟨rfl, rfl⟩
theorem shaped_fr {n : Nat} {r : Rat} (h : Sz n r) (hn : n ≤ 1850) : SeqAt.shaped (fr r) = true := (good_fr h hn).shaped (by decide)
theorem fr_one : (PyData.tuple [.int 1, .int 1]) = fr 1 := rfl
@[simp] theorem ix_fr0 (r : Rat) (m : Sto) : gIx (.d (fr r)) (.d (.int 0)) m = some (.d (.int r.num)) := by simp [fr]
@[simp] theorem ix_fr1 (r : Rat) (m : Sto) : gIx (.d (fr r)) (.d (.int 1)) m = some (.d (.int r.den)) := by simp [fr]
theorem threes_ok {a b c : Rat} (ha : Sz 100 a) (hb : Sz 100 b) (hc : Sz 100 c) (m : Sto) : F_l_threes_right [.d (fr a), .d (fr b), .d (fr c)] m = .ok (.d (.bool true)) m := by
  have ab := zz_add ha hb
  have cb := zz_add hc hb
  have mab := zz_mul ha hb
  have mac := zz_mul ha hc
  have mcb := zz_mul hc hb
  have sbc := zz_sub hb hc
  have sab := zz_sub ha hb
  have a' := ha.mono (k := 201) (by decide)
  have b' := hb.mono (k := 201) (by decide)
  have c' := hc.mono (k := 201) (by decide)
  have a2 := ha.mono (k := 200) (by decide)
  have b2 := hb.mono (k := 200) (by decide)
  have c2 := hc.mono (k := 200) (by decide)
  have x1 := zz_add ab c'
  have x2 := zz_mul mab c2
  have x3 := zz_mul a' sbc
  have e1 := fun m => c_add ha hb (by decide) m
  have e2 := fun m => c_add ab c' (by decide) m
  have e3 := fun m => c_add hc hb (by decide) m
  have e4 := fun m => c_add a' cb (by decide) m
  have e5 := fun m => c_mul ha hb (by decide) m
  have e6 := fun m => c_mul mab c2 (by decide) m
  have e7 := fun m => c_mul hc hb (by decide) m
  have e8 := fun m => c_mul a2 mcb (by decide) m
  have e9 := fun m => c_sub hb hc (by decide) m
  have e10 := fun m => c_mul a' sbc (by decide) m
  have e11 := fun m => c_mul ha hc (by decide) m
  have e12 := fun m => c_sub mab mac (by decide) m
  have e13 := fun m => c_sub ha hb (by decide) m
  have e14 := fun m => c_add sab b' (by decide) m
  have e15 := fun m => c_lt ha hb (by decide) m
  have e16 := fun m => c_lt hb ha (by decide) m
  have q1 : a + (c + b) = a + b + c := by grind
  have q2 : a * (c * b) = a * b * c := by grind
  have q3 : a * b - a * c = a * (b - c) := by grind
  have q4 : a - b + b = a := by grind
  rw [q1] at e4
  rw [q2] at e8
  rw [q3] at e12
  rw [q4] at e14
  have s1 := shaped_fr x1 (by decide)
  have s2 := shaped_fr x2 (by decide)
  have s3 := shaped_fr x3 (by decide)
  have s4 := shaped_fr ha (by decide)
  have s4b := shaped_fr hb (by decide)
  have s5 : SeqAt.shaped (.list [.bool (decide (a < b)), .bool (decide (b < a)), .bool (decide (a = b))]) = true := shaped_list (by
    intro x hx
    simp only [List.mem_cons, List.not_mem_nil, or_false] at hx
    rcases hx with rfl | rfl | rfl <;> simp [fine, PyData.depth])
  have hz : 3 ≤ sizeLine := by rw [line_eq]; decide
  have hz2 : 2 ≤ sizeLine := by rw [line_eq]; decide
  have hcount : ([PyData.bool (decide (a < b)), .bool (decide (b < a)), .bool (decide (a = b))].countP fun z => PyData.eqv z (.bool true)) = 1 := by
    by_cases h1 : a < b
    · have h2 : ¬ b < a := fun z => by
        rw [Rat.lt_iff] at h1 z
        omega
      have h3 : ¬ a = b := fun z => by
        rw [z, Rat.lt_iff] at h1
        omega
      simp [h1, h2, h3, PyData.eqv]
    · by_cases h2 : b < a
      · have h3 : ¬ a = b := fun z => by
          rw [z, Rat.lt_iff] at h2
          omega
        simp [h1, h2, h3, PyData.eqv]
      · have h3 : a = b := Rat.le_antisymm (Rat.not_lt.mp h2) (Rat.not_lt.mp h1)
        simp [h3, PyData.eqv]
  unfold F_l_threes_right runB m_l_threes_right
  by_cases h0 : b.num = 0
  · simp [-Rat.num_eq_zero, e1, e2, e3, e4, e5, e6, e7, e8, e9, e10, e11, e12, e13, e14, e15, e16, eqv_fr, s1, s2, s3, s4, s4b, s5, hz, hcount, shaped_int, shaped_bool, eqv_int, if_pos h0]
  · have e17 := fun m => c_quo ha hb (by decide) m h0
    have e18 := fun m => c_quo hb hb (by decide) m h0
    have y := zz_quo ha hb h0
    have e19 := fun m => c_mul y b2 (by decide) m
    have hb0 : b ≠ 0 := fun z => h0 (by rw [z]; rfl)
    have q5 : a / b * b = a := by grind
    have q6 : b / b = 1 := by grind
    rw [q5] at e19
    rw [q6] at e18
    have s6 : SeqAt.shaped (fr 1) = true := by decide +kernel
    simp [-Rat.num_eq_zero, e1, e2, e3, e4, e5, e6, e7, e8, e9, e10, e11, e12, e13, e14, e15, e16, e17, e18, e19, fr_one, eqv_fr, s1, s2, s3, s4, s4b, s5, s6, hz, hz2, hcount, shaped_int, shaped_bool, eqv_int, if_neg h0]
end Lw

namespace Lw
open PySem L2 DL PyProof.Rows
/-! ### great ones -/
theorem okm2 {i j : Int} (h1 : i.natAbs < 2 ^ 400) (h2 : j.natAbs < 2 ^ 400) : okMul i j = true := okm (n := 400) (by decide) h1 h2
theorem great_nums {ns : List Int} {j : Nat} {c : Cell} (h : Fed ns j c) (hj : j ≤ 10 ^ 7) (tl : Sto) (a1 a2 a3 a4 a5 : Option W) : ∃ (x y : Int) (c' : Cell),
    lcL [] (gN 6) tTru (dBin gAdd (dBin gMul (dBin gMul (dBin gPow (dC (.int 10)) (dC (.int 29))) (dCall F_l_draw (dCons (dVar 0) (dCons (dBin gPow (dC (.int 10)) (dC (.int 6))) dNil)))) (dBin gPow (dC (.int 10)) (dC (.int 24)))) (dBin gMul (dC (.int 720720)) (dCall F_l_draw (dCons (dVar 0) (dCons (dC (.int 1000)) dNil)))))
      [some (.c 0), a1, a2, a3, a4, a5, none] [.int 0, .int 1] [] (c :: tl) = .ok [.int x, .int y] (c' :: tl) ∧ Fed ns (j + 4) c' ∧ 0 ≤ x ∧ x.natAbs < 2 ^ 220 ∧ 0 ≤ y ∧ y.natAbs < 2 ^ 220 := by
  obtain ⟨r1, c1, e1, h1, p1, q1⟩ := fed_draw h (by omega) 1000000 (by decide) (by decide) tl
  obtain ⟨r2, c2, e2, h2, p2, q2⟩ := fed_draw h1 (by omega) 1000 (by decide) (by decide) tl
  obtain ⟨r3, c3, e3, h3, p3, q3⟩ := fed_draw h2 (by omega) 1000000 (by decide) (by decide) tl
  obtain ⟨r4, c4, e4, h4, p4, q4⟩ := fed_draw h3 (by omega) 1000 (by decide) (by decide) tl
  have k1 : okMul 100000000000000000000000000000 r1 = true := okm2 (by decide) (by omega)
  have k2 : okMul (100000000000000000000000000000 * r1) 1000000000000000000000000 = true := okm2 (by omega) (by decide)
  have k3 : okMul 720720 r2 = true := okm2 (by decide) (by omega)
  have k4 : okMul 100000000000000000000000000000 r3 = true := okm2 (by decide) (by omega)
  have k5 : okMul (100000000000000000000000000000 * r3) 1000000000000000000000000 = true := okm2 (by omega) (by decide)
  have k6 : okMul 720720 r4 = true := okm2 (by decide) (by omega)
  have hz : 1 < sizeLine := by rw [line_eq]; decide
  have hz0 : 0 < sizeLine := by rw [line_eq]; decide
  refine ⟨100000000000000000000000000000 * r1 * 1000000000000000000000000 + 720720 * r2, 100000000000000000000000000000 * r3 * 1000000000000000000000000 + 720720 * r4, c4, ?_, h4, by omega, by omega, by omega, by omega⟩
  simp [lcL_cons, lcL_nil, e1, e2, e3, e4, k1, k2, k3, k4, k5, k6, hz, hz0]
theorem great_ok {ns : List Int} {j : Nat} {c : Cell} (h : Fed ns j c) (hj : j ≤ 10 ^ 7) (tl : Sto) : ∃ (c' : Cell) (tl' : Sto), F_l_great_right [.c 0] (c :: tl) = .ok (.d (.bool true)) (c' :: tl') ∧ Fed ns (j + 10) c' := by
  obtain ⟨x, y, c1, e1, h1, x0, xb, y0, yb⟩ := great_nums h hj tl none none none none none
  obtain ⟨r2, c2, e2, h2, p2, q2⟩ := fed_draw h1 (by omega) 2 (by decide) (by decide) tl
  obtain ⟨r3, c3, e3, h3, p3, q3⟩ := fed_draw h2 (by omega) 3 (by decide) (by decide) tl
  obtain ⟨u, eu, hu⟩ := pick (xs := [PyData.int 1, .int (-1)]) (n := 2) rfl p2 q2
  obtain ⟨v, ev, hv⟩ := pick (xs := [PyData.int 1, .int (-1), .int 6]) (n := 3) rfl p3 q3
  have hu2 : ∃ a : Int, u = .int a ∧ a.natAbs ≤ 6 := by
    simp only [List.mem_cons, List.not_mem_nil, or_false] at hu
    rcases hu with rfl | rfl
    all_goals exact ⟨_, rfl, by decide⟩
  have hv2 : ∃ a : Int, v = .int a ∧ a ≠ 0 ∧ a.natAbs ≤ 6 := by
    simp only [List.mem_cons, List.not_mem_nil, or_false] at hv
    rcases hv with rfl | rfl | rfl
    all_goals exact ⟨_, rfl, by decide, by decide⟩
  obtain ⟨u, rfl, hu2⟩ := hu2
  obtain ⟨v, rfl, hv0, hv2⟩ := hv2
  have k1 : okMul x u = true := okm2 (Nat.lt_trans xb (by decide)) (by omega)
  have k2 : okMul (y + 1) v = true := okm2 (by omega) (by omega)
  have ha : (x * u).natAbs < 2 ^ (220 + 3) := mul_lt2 xb (by omega)
  have hb : ((y + 1) * v).natAbs < 2 ^ (221 + 3) := mul_lt2 (by omega) (by omega)
  have hb0 : (y + 1) * v ≠ 0 := Int.mul_ne_zero (by omega) hv0
  generalize hA : x * u = A at *
  generalize hB : (y + 1) * v = B at *
  have hB8 : B.natAbs < 2 ^ 8000 := lt8 hb (by decide)
  have k3 : okMul A 6 = true := okm2 (Nat.lt_trans ha (by decide)) (by decide)
  have f1 := fun m => ratio_eq A B hb0 hB8 m
  have f2 := fun m => ratio_eq B B hb0 hB8 m
  have f3 := fun m => ratio_eq (A * 6) B hb0 hB8 m
  rw [Rat.divInt_self' hb0] at f2
  have f4 := fun m => made_eq A B hb0 hB8 m
  have f5 := fun m => made_eq (A * 6) B hb0 hB8 m
  have s1 : Sz 300 (Rat.divInt A B) := sz_div hb0 (Nat.lt_trans ha (by decide)) (Nat.lt_trans hb (by decide))
  have s2 : Sz 300 (Rat.divInt (A * 6) B) := sz_div hb0 (by omega) (Nat.lt_trans hb (by decide))
  have s3 : Sz 300 (1 : Rat) := ⟨by decide, by decide⟩
  have hg : Good 2 12000 (.list [fr (Rat.divInt A B), fr 1, fr (Rat.divInt (A * 6) B)]) :=
    (goodA_all (k := 1) (n := 3720) (by
      intro x hx
      simp only [List.mem_cons, List.not_mem_nil, or_false] at hx
      rcases hx with rfl | rfl | rfl
      · exact good_fr s1 (by decide)
      · exact good_fr s3 (by decide)
      · exact good_fr s2 (by decide))).lst.mono (by decide) (by simp)
  have hs1 := hg.show (by decide) (by decide)
  have hs2 := shaped_str (fine_shown _ hg.fin)
  obtain ⟨r5, c5, e5, h5, p5, q5⟩ := fed_draw h3 (by omega) 1000000 (by decide) (by decide) tl
  obtain ⟨r6, c6, e6, h6, p6, q6⟩ := fed_draw h5 (by omega) 1000000 (by decide) (by decide) tl
  obtain ⟨r7, c7, e7, h7, p7, q7⟩ := fed_draw h6 (by omega) 1000000 (by decide) (by decide) tl
  obtain ⟨r8, c8, e8, h8, p8, q8⟩ := fed_draw h7 (by omega) 1000000 (by decide) (by decide) tl
  have g1 := fun m => made_eq (100000000000000000000000000000 + r5) (10000000000000000000000000001 + r6) (by omega) (lt8 (n := 200) (by omega) (by decide)) m
  have g2 := fun m => made_eq (r7 - 70000000000000000000000000000) (10000000000000000000000000003 + r8) (by omega) (lt8 (n := 200) (by omega) (by decide)) m
  have k4 : okMul 7 10000000000000000000000000000 = true := okm2 (by decide) (by decide)
  have z1 : Sz 900 (Rat.divInt (100000000000000000000000000000 + r5) (10000000000000000000000000001 + r6)) := (sz_div (n := 200) (by omega) (by omega) (by omega)).mono (by decide)
  have z2 : Sz 900 (Rat.divInt (r7 - 70000000000000000000000000000) (10000000000000000000000000003 + r8)) := (sz_div (n := 200) (by omega) (by omega) (by omega)).mono (by decide)
  obtain ⟨tl', er⟩ := right_ok z1 z2 (c8 :: tl)
  refine ⟨c8, tl ++ tl', ?_, h8.mono (by omega)⟩
  generalize fr (Rat.divInt A B) = T1 at *
  generalize fr (Rat.divInt (A * 6) B) = T2 at *
  generalize fr (Rat.divInt (100000000000000000000000000000 + r5) (10000000000000000000000000001 + r6)) = T3 at *
  generalize fr (Rat.divInt (r7 - 70000000000000000000000000000) (10000000000000000000000000003 + r8)) = T4 at *
  have hrg : rngL 0 2 = [.int 0, .int 1] := rfl
  have hz : 3 ≤ sizeLine := by rw [line_eq]; decide
  have hz2 : 2 ≤ sizeLine := by rw [line_eq]; decide
  unfold F_l_great_right runB m_l_great_right
  simp [wipeR, hrg, e1, e2, e3, eu, ev, k1, k2, hA, hB, k3, f1, f2, f3, f4, f5, fr_one, hz, hz2, hs1, hs2, str_eqv, e5, e6, e7, e8, g1, g2, k4, er]
end Lw

namespace Lw
open PySem L2 DL PyProof.Rows
/-! ### the law -/
theorem fraction_fr {ns : List Int} {j : Nat} {c : Cell} (h : Fed ns j c) (hj : j ≤ 10 ^ 8) (tl : Sto) :
    ∃ (r : Rat) (c' : Cell), F_l_fraction [.c 0] (c :: tl) = .ok (.d (fr r)) (c' :: tl) ∧ Fed ns (j + 6) c' ∧ Sz 20 r := by
  obtain ⟨r1, c1, e1, h1, a1, b1⟩ := fed_draw h (by omega) 13 (by decide) (by decide) tl
  obtain ⟨r2, c2, e2, h2, a2, b2⟩ := fed_draw h1 (by omega) 1999999 (by decide) (by decide) tl
  obtain ⟨r3, c3, e3, h3, a3, b3⟩ := fed_draw h2 (by omega) 5 (by decide) (by decide) tl
  obtain ⟨r4, c4, e4, h4, a4, b4⟩ := fed_draw h3 (by omega) 12 (by decide) (by decide) tl
  obtain ⟨r5, c5, e5, h5, a5, b5⟩ := fed_draw h4 (by omega) 999999 (by decide) (by decide) tl
  obtain ⟨r6, c6, e6, h6, a6, b6⟩ := fed_draw h5 (by omega) 3 (by decide) (by decide) tl
  obtain ⟨v, ev, hv⟩ := pick (xs := [PyData.int (r1 - 6), .int (r2 - 999999), .int 0, .int 1, .int (-1)]) (n := 5) rfl a3 b3
  obtain ⟨u, eu, hu⟩ := pick (xs := [PyData.int 1, .int (1 + r4), .int (1 + r5)]) (n := 3) rfl a6 b6
  have hv2 : ∃ a : Int, v = .int a ∧ a.natAbs ≤ 1000000 := by
    simp only [List.mem_cons, List.not_mem_nil, or_false] at hv
    rcases hv with rfl | rfl | rfl | rfl | rfl
    all_goals exact ⟨_, rfl, by omega⟩
  have hu2 : ∃ a : Int, u = .int a ∧ 0 < a ∧ a ≤ 1000000 := by
    simp only [List.mem_cons, List.not_mem_nil, or_false] at hu
    rcases hu with rfl | rfl | rfl
    all_goals exact ⟨_, rfl, by omega, by omega⟩
  obtain ⟨a, rfl, ha⟩ := hv2
  obtain ⟨b, rfl, hb, hb2⟩ := hu2
  have em := made_eq a b (by omega) (lt8 (n := 20) (by omega) (by decide)) (c6 :: tl)
  refine ⟨Rat.divInt a b, c6, ?_, h6, sz_div (by omega) (by omega) (by omega)⟩
  unfold F_l_fraction runB m_l_fraction
  simp [e1, e2, e3, e4, e5, e6, ev, eu, em, line_eq]
noncomputable def bPair : Fs := (sIf (dNotT (dTru (dCall F_l_is_right (dCons (dBin gIx (dVar 7) (dC (.int 0))) (dCons (dBin gIx (dVar 7) (dC (.int 1))) dNil)))))
    (sRet (dC (.bool false)))
    sNx)
noncomputable def bTurn : Fs := (sSeq (sAsg (dData (dLc (iRange1 (dC (.int 3))) (gN 8) tTru (dCall F_l_fraction (dCons (dVar 1) dNil)) [8])) (gU 3 (gsCons (gN 3) (gsCons (gN 4) (gsCons (gN 5) gsNil)))))
    (sSeq (sAsg (dCall F_l_made (dCons (dBin gAdd (dBin gMul (dBin gIx (dVar 3) (dC (.int 0))) (dBin gIx (dVar 4) (dC (.int 1)))) (dC (.int 1))) (dCons (dBin gMul (dBin gIx (dVar 3) (dC (.int 1))) (dBin gIx (dVar 4) (dC (.int 1)))) dNil))) (gN 6))
    (sSeq (sFor (iTupD (dTup (dCons (dTup (dCons (dVar 3) (dCons (dVar 4) dNil))) (dCons (dTup (dCons (dVar 4) (dCons (dVar 3) dNil))) (dCons (dTup (dCons (dVar 3) (dCons (dVar 3) dNil))) (dCons (dTup (dCons (dVar 3) (dCons (dVar 6) dNil))) (dCons (dTup (dCons (dVar 6) (dCons (dVar 3) dNil))) (dCons (dTup (dCons (dVar 3) (dCons (dTup (dCons (dC (.int 0)) (dCons (dC (.int 1)) dNil))) dNil))) (dCons (dTup (dCons (dTup (dCons (dC (.int 0)) (dCons (dC (.int 1)) dNil))) (dCons (dVar 4) dNil))) dNil))))))))) (gN 7)
    bPair)
    (sSeq (sIf (dOrT (dNotT (dTru (dCall F_l_is_right (dCons (dCall F_added (dCons (dVar 3) (dCons (dVar 4) dNil))) (dCons (dCall F_times (dCons (dVar 6) (dCons (dVar 4) dNil))) dNil))))) (dNotT (dTru (dCall F_l_threes_right (dCons (dVar 3) (dCons (dVar 4) (dCons (dVar 5) dNil)))))))
    (sRet (dC (.bool false)))
    sNx)
    (sIf (dNotT (dTru (dCall F_l_great_right (dCons (dVar 1) dNil))))
    (sRet (dC (.bool false)))
    sNx)))))
theorem m_law_is : m_law = (sSeq (sAsg (dCall F_l_feed (dCons (dVar 0) dNil)) (gN 1)) (sSeq (sFor (iRange1 (dC (.int 12))) (gN 2) bTurn) (sRet (dC (.bool true))))) := rfl
theorem pairs_ok {a0 a1 a2 a3 a4 a5 a6 a7 a8 : Option W} {c : Cell} (xs : List D) (hx : ∀ x ∈ xs, ∃ a b : Rat, x = .tuple [fr a, fr b] ∧ Sz 900 a ∧ Sz 900 b) (tl : Sto) :
    ∃ x7 tl', forL [] (gN 7) bPair xs [a0, a1, a2, a3, a4, a5, a6, a7, a8] (c :: tl) = .nx [a0, a1, a2, a3, a4, a5, a6, x7, a8] (c :: tl') := by
  obtain ⟨r', m', e, x7, tl', rfl, rfl, _⟩ := forL_keeps (tg := gN 7) (b := bPair) (P := fun l r m1 => ∃ x7 tl', r = [a0, a1, a2, a3, a4, a5, a6, x7, a8] ∧ m1 = c :: tl' ∧ ∀ x ∈ l, ∃ a b : Rat, x = .tuple [fr a, fr b] ∧ Sz 900 a ∧ Sz 900 b) xs ⟨a7, tl, rfl, rfl, hx⟩ (by
      rintro x l r m1 ⟨x7, tl', rfl, rfl, h⟩
      obtain ⟨a, b, rfl, ha, hb⟩ := h x List.mem_cons_self
      obtain ⟨t2, e⟩ := right_ok ha hb (c :: tl')
      refine ⟨_, _, by simp; exact ⟨rfl, rfl⟩, [a0, a1, a2, a3, a4, a5, a6, some (.d (.tuple [fr a, fr b])), a8], c :: (tl' ++ t2), ?_, some (.d (.tuple [fr a, fr b])), tl' ++ t2, rfl, rfl, fun y hy => h y (List.mem_cons_of_mem _ hy)⟩
      unfold bPair
      simp [e])
  exact ⟨x7, tl', e⟩
theorem turn_ok {ns : List Int} {w0 : List D} {w2 w3 w4 w5 w6 w7 w8 : Option W} {j : Nat} {c : Cell} (tl : Sto) (hf : Fed ns j c) (hj : j ≤ 10 ^ 6) :
    ∃ v3 v4 v5 v6 v7 c' tl', bTurn [some (.k w0), some (.c 0), w2, w3, w4, w5, w6, w7, w8] (c :: tl) = .nx [some (.k w0), some (.c 0), w2, v3, v4, v5, v6, v7, w8] (c' :: tl') ∧ Fed ns (j + 100) c' := by
  obtain ⟨r1, c1, e1, h1, z1⟩ := fraction_fr hf (by omega) tl
  obtain ⟨r2, c2, e2, h2, z2⟩ := fraction_fr h1 (by omega) tl
  obtain ⟨r3, c3, e3, h3, z3⟩ := fraction_fr h2 (by omega) tl
  have k1 := ok_nd z1 z2 (by decide)
  have k2 := ok_dd z1 z2 (by decide)
  have b1 : (r1.num * r2.den + 1).natAbs < 2 ^ 41 := add_lt2 (sz_nd z1 z2) (by decide)
  have b2 : ((r1.den : Int) * r2.den).natAbs < 2 ^ 40 := sz_dd z1 z2
  have e4 := fun m => made_eq (r1.num * r2.den + 1) (r1.den * r2.den) (den_ne r1 r2) (lt8 b2 (by decide)) m
  have z4 : Sz 41 (Rat.divInt (r1.num * r2.den + 1) (r1.den * r2.den)) := sz_div (den_ne r1 r2) b1 (Nat.lt_trans b2 (by decide))
  generalize Rat.divInt (r1.num * r2.den + 1) (r1.den * r2.den) = r4 at *
  have y1 := z1.mono (k := 900) (by decide)
  have y2 := z2.mono (k := 900) (by decide)
  have y4 := z4.mono (k := 900) (by decide)
  have y0 : Sz 900 (0 : Rat) := (show Sz 1 (0 : Rat) from ⟨by decide, by decide⟩).mono (by decide)
  let ps : List D := [.tuple [fr r1, fr r2], .tuple [fr r2, fr r1], .tuple [fr r1, fr r1], .tuple [fr r1, fr r4], .tuple [fr r4, fr r1], .tuple [fr r1, .tuple [.int 0, .int 1]], .tuple [.tuple [.int 0, .int 1], fr r2]]
  obtain ⟨x7, tl1, e5⟩ := pairs_ok (a0 := some (.k w0)) (a1 := some (.c 0)) (a2 := w2) (a3 := some (.d (fr r1))) (a4 := some (.d (fr r2))) (a5 := some (.d (fr r3))) (a6 := some (.d (fr r4))) (a7 := w7) (a8 := w8) (c := c3) ps (by
    intro x hx
    simp only [ps, List.mem_cons, List.not_mem_nil, or_false] at hx
    rcases hx with rfl | rfl | rfl | rfl | rfl | rfl | rfl
    · exact ⟨_, _, rfl, y1, y2⟩
    · exact ⟨_, _, rfl, y2, y1⟩
    · exact ⟨_, _, rfl, y1, y1⟩
    · exact ⟨_, _, rfl, y1, y4⟩
    · exact ⟨_, _, rfl, y4, y1⟩
    · exact ⟨_, 0, rfl, y1, y0⟩
    · exact ⟨0, _, rfl, y0, y2⟩) tl
  have e6 := fun m => c_add z1 z2 (by decide) m
  have z5 := zz_add z1 z2
  have e7 := fun m => c_mul z4 (z2.mono (k := 41) (by decide)) (by decide) m
  have z6 := zz_mul z4 (z2.mono (k := 41) (by decide))
  obtain ⟨tl2, e8⟩ := right_ok (z5.mono (k := 900) (by decide)) (z6.mono (k := 900) (by decide)) (c3 :: tl1)
  have e9 := fun m => threes_ok (z1.mono (k := 100) (by decide)) (z2.mono (k := 100) (by decide)) (z3.mono (k := 100) (by decide)) m
  obtain ⟨c5, tl5, e10, h5⟩ := great_ok h3 (by omega) (tl1 ++ tl2)
  refine ⟨some (.d (fr r1)), some (.d (fr r2)), some (.d (fr r3)), some (.d (fr r4)), x7, c5, tl5, ?_, h5.mono (by omega)⟩
  unfold bTurn
  have hrg : rngL 0 3 = [.int 0, .int 1, .int 2] := rfl
  have hz : 2 < sizeLine := by rw [line_eq]; decide
  have hz1 : 1 < sizeLine := by rw [line_eq]; decide
  have hz0 : 0 < sizeLine := by rw [line_eq]; decide
  have hz7 : 7 ≤ sizeLine := by rw [line_eq]; decide
  have hz2 : 2 ≤ sizeLine := by rw [line_eq]; decide
  simp only [ps] at e5
  simp [hrg, wipeR, lcL_cons, lcL_nil, e1, e2, e3, hz, hz0, hz1, hz2, hz7, k1, k2, e4, e5, e6, e7, e8, e9, e10]
theorem feed_ok {ns : List Int} (h : ns.length ≤ 63) : F_l_feed [.k (ns.map PyData.int)] [] = .ok (.c 0) [feed ns 0 0 0] := by
  have hc : DL.cutD (ns.map PyData.int) none (some 63) = ns.map PyData.int := cutD_all rfl (by
    have := HT.sIx_nat (ns.map PyData.int).length (ns.map PyData.int).length 63
    rw [List.length_map] at *
    rw [show ((63 : Int)) = ((63 : Nat) : Int) from rfl, this]
    omega)
  unfold F_l_feed runB m_l_feed
  simp [hc, line_eq]
theorem law_true : ∀ ns : List Int, ns.length ≤ 63 → ∃ m, F_law [.k (ns.map PyData.int)] [] = .ok (.d (.bool true)) m := by
  intro ns h
  have e1 := feed_ok h
  obtain ⟨r', m', e2, w2, w3, w4, w5, w6, w7, c, tl, hr, _⟩ := forL_keeps (tg := gN 2) (b := bTurn) (P := fun l r m => ∃ w2 w3 w4 w5 w6 w7 c tl, r = [some (.k (ns.map PyData.int)), some (.c 0), w2, w3, w4, w5, w6, w7, none] ∧ m = c :: tl ∧
      Fed ns (100 * (12 - l.length)) c ∧ l.length ≤ 12) (rngL 0 12) (r := [some (.k (ns.map PyData.int)), some (.c 0), none, none, none, none, none, none, none]) (m := [feed ns 0 0 0]) ⟨_, _, _, _, _, _, _, _, rfl, rfl, ⟨h, 0, 0, 0, rfl, by omega, by omega, by omega⟩, by simp [rngL]⟩ (by
      rintro x l r m ⟨w2, w3, w4, w5, w6, w7, c, tl, rfl, rfl, hf, hl⟩
      simp only [List.length_cons] at hf hl
      obtain ⟨v3, v4, v5, v6, v7, c', tl', e, hf'⟩ := turn_ok (w0 := ns.map PyData.int) (w2 := some (.d x)) (w3 := w3) (w4 := w4) (w5 := w5) (w6 := w6) (w7 := w7) (w8 := none) tl hf (by omega)
      exact ⟨_, _, by simp, _, _, e, _, _, _, _, _, _, c', tl', rfl, rfl, hf'.mono (by omega), by omega⟩)
  refine ⟨m', ?_⟩
  unfold F_law runB
  rw [m_law_is]
  simp [e1, e2]
end Lw

namespace Lw
open PySem L2 DL PyProof.Rows
theorem all_mk {l : PySem.W.OpenLaw} {w : World} {K : PySem.W.Frag} {h : Heap} {mg : Str → Option Value} {fa : Addr} (X : K.In h) (G : h.Ns mainGlobals mg) (hfa : mg "law" = some (.ref fa))
    {f1 : Addr} {od1 an1 : Option Addr} {sl1 : Array (Option Value)} {oc1 kV1 dc1 pm1 cd1 ct1 : Value} {f2 : Addr} {od2 an2 : Option Addr} {sl2 : Array (Option Value)} {oc2 kV2 dc2 pm2 cd2 ct2 : Value} {f3 : Addr} {od3 an3 : Option Addr} {sl3 : Array (Option Value)} {oc3 kV3 dc3 pm3 cd3 ct3 : Value} {f4 : Addr} {od4 an4 : Option Addr} {sl4 : Array (Option Value)} {oc4 kV4 dc4 pm4 cd4 ct4 : Value} {f5 : Addr} {od5 an5 : Option Addr} {sl5 : Array (Option Value)} {oc5 kV5 dc5 pm5 cd5 ct5 : Value} {f6 : Addr} {od6 an6 : Option Addr} {sl6 : Array (Option Value)} {oc6 kV6 dc6 pm6 cd6 ct6 : Value} {f7 : Addr} {od7 an7 : Option Addr} {sl7 : Array (Option Value)} {oc7 kV7 dc7 pm7 cd7 ct7 : Value} {f8 : Addr} {od8 an8 : Option Addr} {sl8 : Array (Option Value)} {oc8 kV8 dc8 pm8 cd8 ct8 : Value} {f9 : Addr} {od9 an9 : Option Addr} {sl9 : Array (Option Value)} {oc9 kV9 dc9 pm9 cd9 ct9 : Value} {f10 : Addr} {od10 an10 : Option Addr} {sl10 : Array (Option Value)} {oc10 kV10 dc10 pm10 cd10 ct10 : Value} {f11 : Addr} {od11 an11 : Option Addr} {sl11 : Array (Option Value)} {oc11 kV11 dc11 pm11 cd11 ct11 : Value} {f12 : Addr} {od12 an12 : Option Addr} {sl12 : Array (Option Value)} {oc12 kV12 dc12 pm12 cd12 ct12 : Value} {f13 : Addr} {od13 an13 : Option Addr} {sl13 : Array (Option Value)} {oc13 kV13 dc13 pm13 cd13 ct13 : Value} {f14 : Addr} {od14 an14 : Option Addr} {sl14 : Array (Option Value)} {oc14 kV14 dc14 pm14 cd14 ct14 : Value} {f15 : Addr} {od15 an15 : Option Addr} {sl15 : Array (Option Value)} {oc15 kV15 dc15 pm15 cd15 ct15 : Value} {f16 : Addr} {od16 an16 : Option Addr} {sl16 : Array (Option Value)} {oc16 kV16 dc16 pm16 cd16 ct16 : Value}
    (a1 : PySem.W.nsIn K mainGlobals "common_divisor" = some (some (.ref f1))) (l1 : K.lookup f1 = some ⟨oc1, od1, .func (PySem.W.fnOf "common_divisor" "common_divisor" (defArgs s_common_divisor) (defBody s_common_divisor) (defScope s_common_divisor) .none kV1 dc1 pm1 an1 cd1 ct1), sl1⟩) (c1 : PySem.W.codeIn K cd1 "common_divisor" = true) (k1 : PySem.W.keepIn K (.ref f1) = true)
    (a2 : PySem.W.nsIn K mainGlobals "ratio" = some (some (.ref f2))) (l2 : K.lookup f2 = some ⟨oc2, od2, .func (PySem.W.fnOf "ratio" "ratio" (defArgs s_ratio) (defBody s_ratio) (defScope s_ratio) .none kV2 dc2 pm2 an2 cd2 ct2), sl2⟩) (c2 : PySem.W.codeIn K cd2 "ratio" = true) (k2 : PySem.W.keepIn K (.ref f2) = true)
    (a3 : PySem.W.nsIn K mainGlobals "added" = some (some (.ref f3))) (l3 : K.lookup f3 = some ⟨oc3, od3, .func (PySem.W.fnOf "added" "added" (defArgs s_added) (defBody s_added) (defScope s_added) .none kV3 dc3 pm3 an3 cd3 ct3), sl3⟩) (c3 : PySem.W.codeIn K cd3 "added" = true) (k3 : PySem.W.keepIn K (.ref f3) = true)
    (a4 : PySem.W.nsIn K mainGlobals "less" = some (some (.ref f4))) (l4 : K.lookup f4 = some ⟨oc4, od4, .func (PySem.W.fnOf "less" "less" (defArgs s_less) (defBody s_less) (defScope s_less) .none kV4 dc4 pm4 an4 cd4 ct4), sl4⟩) (c4 : PySem.W.codeIn K cd4 "less" = true) (k4 : PySem.W.keepIn K (.ref f4) = true)
    (a5 : PySem.W.nsIn K mainGlobals "times" = some (some (.ref f5))) (l5 : K.lookup f5 = some ⟨oc5, od5, .func (PySem.W.fnOf "times" "times" (defArgs s_times) (defBody s_times) (defScope s_times) .none kV5 dc5 pm5 an5 cd5 ct5), sl5⟩) (c5 : PySem.W.codeIn K cd5 "times" = true) (k5 : PySem.W.keepIn K (.ref f5) = true)
    (a6 : PySem.W.nsIn K mainGlobals "parted" = some (some (.ref f6))) (l6 : K.lookup f6 = some ⟨oc6, od6, .func (PySem.W.fnOf "parted" "parted" (defArgs s_parted) (defBody s_parted) (defScope s_parted) .none kV6 dc6 pm6 an6 cd6 ct6), sl6⟩) (c6 : PySem.W.codeIn K cd6 "parted" = true) (k6 : PySem.W.keepIn K (.ref f6) = true)
    (a7 : PySem.W.nsIn K mainGlobals "is_below" = some (some (.ref f7))) (l7 : K.lookup f7 = some ⟨oc7, od7, .func (PySem.W.fnOf "is_below" "is_below" (defArgs s_is_below) (defBody s_is_below) (defScope s_is_below) .none kV7 dc7 pm7 an7 cd7 ct7), sl7⟩) (c7 : PySem.W.codeIn K cd7 "is_below" = true) (k7 : PySem.W.keepIn K (.ref f7) = true)
    (a8 : PySem.W.nsIn K mainGlobals "_law_feed" = some (some (.ref f8))) (l8 : K.lookup f8 = some ⟨oc8, od8, .func (PySem.W.fnOf "_law_feed" "_law_feed" (defArgs s_l_feed) (defBody s_l_feed) (defScope s_l_feed) .none kV8 dc8 pm8 an8 cd8 ct8), sl8⟩) (c8 : PySem.W.codeIn K cd8 "_law_feed" = true) (k8 : PySem.W.keepIn K (.ref f8) = true)
    (a9 : PySem.W.nsIn K mainGlobals "_law_draw" = some (some (.ref f9))) (l9 : K.lookup f9 = some ⟨oc9, od9, .func (PySem.W.fnOf "_law_draw" "_law_draw" (defArgs s_l_draw) (defBody s_l_draw) (defScope s_l_draw) .none kV9 dc9 pm9 an9 cd9 ct9), sl9⟩) (c9 : PySem.W.codeIn K cd9 "_law_draw" = true) (k9 : PySem.W.keepIn K (.ref f9) = true)
    (a10 : PySem.W.nsIn K mainGlobals "_law_divisor" = some (some (.ref f10))) (l10 : K.lookup f10 = some ⟨oc10, od10, .func (PySem.W.fnOf "_law_divisor" "_law_divisor" (defArgs s_l_divisor) (defBody s_l_divisor) (defScope s_l_divisor) .none kV10 dc10 pm10 an10 cd10 ct10), sl10⟩) (c10 : PySem.W.codeIn K cd10 "_law_divisor" = true) (k10 : PySem.W.keepIn K (.ref f10) = true)
    (a11 : PySem.W.nsIn K mainGlobals "_law_made" = some (some (.ref f11))) (l11 : K.lookup f11 = some ⟨oc11, od11, .func (PySem.W.fnOf "_law_made" "_law_made" (defArgs s_l_made) (defBody s_l_made) (defScope s_l_made) .none kV11 dc11 pm11 an11 cd11 ct11), sl11⟩) (c11 : PySem.W.codeIn K cd11 "_law_made" = true) (k11 : PySem.W.keepIn K (.ref f11) = true)
    (a12 : PySem.W.nsIn K mainGlobals "_law_fraction" = some (some (.ref f12))) (l12 : K.lookup f12 = some ⟨oc12, od12, .func (PySem.W.fnOf "_law_fraction" "_law_fraction" (defArgs s_l_fraction) (defBody s_l_fraction) (defScope s_l_fraction) .none kV12 dc12 pm12 an12 cd12 ct12), sl12⟩) (c12 : PySem.W.codeIn K cd12 "_law_fraction" = true) (k12 : PySem.W.keepIn K (.ref f12) = true)
    (a13 : PySem.W.nsIn K mainGlobals "_law_is_right" = some (some (.ref f13))) (l13 : K.lookup f13 = some ⟨oc13, od13, .func (PySem.W.fnOf "_law_is_right" "_law_is_right" (defArgs s_l_is_right) (defBody s_l_is_right) (defScope s_l_is_right) .none kV13 dc13 pm13 an13 cd13 ct13), sl13⟩) (c13 : PySem.W.codeIn K cd13 "_law_is_right" = true) (k13 : PySem.W.keepIn K (.ref f13) = true)
    (a14 : PySem.W.nsIn K mainGlobals "_law_threes_right" = some (some (.ref f14))) (l14 : K.lookup f14 = some ⟨oc14, od14, .func (PySem.W.fnOf "_law_threes_right" "_law_threes_right" (defArgs s_l_threes_right) (defBody s_l_threes_right) (defScope s_l_threes_right) .none kV14 dc14 pm14 an14 cd14 ct14), sl14⟩) (c14 : PySem.W.codeIn K cd14 "_law_threes_right" = true) (k14 : PySem.W.keepIn K (.ref f14) = true)
    (a15 : PySem.W.nsIn K mainGlobals "_law_great_right" = some (some (.ref f15))) (l15 : K.lookup f15 = some ⟨oc15, od15, .func (PySem.W.fnOf "_law_great_right" "_law_great_right" (defArgs s_l_great_right) (defBody s_l_great_right) (defScope s_l_great_right) .none kV15 dc15 pm15 an15 cd15 ct15), sl15⟩) (c15 : PySem.W.codeIn K cd15 "_law_great_right" = true) (k15 : PySem.W.keepIn K (.ref f15) = true)
    (a16 : PySem.W.nsIn K mainGlobals "law" = some (some (.ref f16))) (l16 : K.lookup f16 = some ⟨oc16, od16, .func (PySem.W.fnOf "law" "law" (defArgs s_law) (defBody s_law) (defScope s_law) .none kV16 dc16 pm16 an16 cd16 ct16), sl16⟩) (c16 : PySem.W.codeIn K cd16 "law" = true) (k16 : PySem.W.keepIn K (.ref f16) = true)
    (z_abs : PySem.W.nsIn K mainGlobals "abs" = some none)
    (z_int : PySem.W.nsIn K mainGlobals "int" = some none)
    (z_len : PySem.W.nsIn K mainGlobals "len" = some none)
    (z_range : PySem.W.nsIn K mainGlobals "range" = some none)
    (z_repr : PySem.W.nsIn K mainGlobals "repr" = some none) :
    ∃ fd : FuncData, (∀ (s : Shared) (u : Value), BindsTo s fd ⟨[u], []⟩ [("_law_script", u)]) ∧ ∃ Fn : List W → Sto → Out W, (∀ ns : List Int, ns.length ≤ 63 → ∃ m, Fn [.k (ns.map PyData.int)] [] = .ok (.d (.bool true)) m) ∧
      ∀ base : Heap, K.In base → base.Ns mainGlobals mg → FnD l.prog w K mg base 6 fa fd ["_law_script"] Fn := by
  have e := hfa.symm.trans (PySem.W.mg_of X G a16)
  cases e
  have B : Bt mg := ⟨PySem.W.mg_none_of X G z_abs, PySem.W.mg_none_of X G z_int, PySem.W.mg_none_of X G z_len, PySem.W.mg_none_of X G z_range, PySem.W.mg_none_of X G z_repr⟩
  have F1 := fun_mk (st := s_common_divisor) l1 c1 k1
  have b1 := F1.binds (ps := p_common_divisor) fun _ _ _ _ _ _ us hl => match us, hl with | [_, _], _ => rfl
  have F2 := fun_mk (st := s_ratio) l2 c2 k2
  have b2 := F2.binds (ps := p_ratio) fun _ _ _ _ _ _ us hl => match us, hl with | [_, _], _ => rfl
  have F3 := fun_mk (st := s_added) l3 c3 k3
  have b3 := F3.binds (ps := p_added) fun _ _ _ _ _ _ us hl => match us, hl with | [_, _], _ => rfl
  have F4 := fun_mk (st := s_less) l4 c4 k4
  have b4 := F4.binds (ps := p_less) fun _ _ _ _ _ _ us hl => match us, hl with | [_, _], _ => rfl
  have F5 := fun_mk (st := s_times) l5 c5 k5
  have b5 := F5.binds (ps := p_times) fun _ _ _ _ _ _ us hl => match us, hl with | [_, _], _ => rfl
  have F6 := fun_mk (st := s_parted) l6 c6 k6
  have b6 := F6.binds (ps := p_parted) fun _ _ _ _ _ _ us hl => match us, hl with | [_, _], _ => rfl
  have F7 := fun_mk (st := s_is_below) l7 c7 k7
  have b7 := F7.binds (ps := p_is_below) fun _ _ _ _ _ _ us hl => match us, hl with | [_, _], _ => rfl
  have F8 := fun_mk (st := s_l_feed) l8 c8 k8
  have b8 := F8.binds (ps := p_l_feed) fun _ _ _ _ _ _ us hl => match us, hl with | [_], _ => rfl
  have F9 := fun_mk (st := s_l_draw) l9 c9 k9
  have b9 := F9.binds (ps := p_l_draw) fun _ _ _ _ _ _ us hl => match us, hl with | [_, _], _ => rfl
  have F10 := fun_mk (st := s_l_divisor) l10 c10 k10
  have b10 := F10.binds (ps := p_l_divisor) fun _ _ _ _ _ _ us hl => match us, hl with | [_, _], _ => rfl
  have F11 := fun_mk (st := s_l_made) l11 c11 k11
  have b11 := F11.binds (ps := p_l_made) fun _ _ _ _ _ _ us hl => match us, hl with | [_, _], _ => rfl
  have F12 := fun_mk (st := s_l_fraction) l12 c12 k12
  have b12 := F12.binds (ps := p_l_fraction) fun _ _ _ _ _ _ us hl => match us, hl with | [_], _ => rfl
  have F13 := fun_mk (st := s_l_is_right) l13 c13 k13
  have b13 := F13.binds (ps := p_l_is_right) fun _ _ _ _ _ _ us hl => match us, hl with | [_, _], _ => rfl
  have F14 := fun_mk (st := s_l_threes_right) l14 c14 k14
  have b14 := F14.binds (ps := p_l_threes_right) fun _ _ _ _ _ _ us hl => match us, hl with | [_, _, _], _ => rfl
  have F15 := fun_mk (st := s_l_great_right) l15 c15 k15
  have b15 := F15.binds (ps := p_l_great_right) fun _ _ _ _ _ _ us hl => match us, hl with | [_], _ => rfl
  have F16 := fun_mk (st := s_law) l16 c16 k16
  refine ⟨PySem.W.fnOf "law" "law" (defArgs s_law) (defBody s_law) (defScope s_law) .none kV16 dc16 pm16 an16 cd16 ct16, fun s v => .of_eq rfl, F_law, law_true, fun base _ _ => ?_⟩
  have D_common_divisor := ok_common_divisor (P := l.prog) (w := w) (base := base) (PySem.W.mg_of X G a1) F1 b1 B
  have D_ratio := ok_ratio (P := l.prog) (w := w) (base := base) (PySem.W.mg_of X G a2) F2 b2 B D_common_divisor
  have D_added := ok_added (P := l.prog) (w := w) (base := base) (PySem.W.mg_of X G a3) F3 b3 B D_ratio
  have D_less := ok_less (P := l.prog) (w := w) (base := base) (PySem.W.mg_of X G a4) F4 b4 B D_ratio
  have D_times := ok_times (P := l.prog) (w := w) (base := base) (PySem.W.mg_of X G a5) F5 b5 B D_ratio
  have D_parted := ok_parted (P := l.prog) (w := w) (base := base) (PySem.W.mg_of X G a6) F6 b6 B D_ratio
  have D_is_below := ok_is_below (P := l.prog) (w := w) (base := base) (PySem.W.mg_of X G a7) F7 b7 B
  have D_l_feed := ok_l_feed (P := l.prog) (w := w) (base := base) (PySem.W.mg_of X G a8) F8 b8 B
  have D_l_draw := ok_l_draw (P := l.prog) (w := w) (base := base) (PySem.W.mg_of X G a9) F9 b9 B
  have D_l_divisor := ok_l_divisor (P := l.prog) (w := w) (base := base) (PySem.W.mg_of X G a10) F10 b10 B
  have D_l_made := ok_l_made (P := l.prog) (w := w) (base := base) (PySem.W.mg_of X G a11) F11 b11 B D_l_divisor
  have D_l_fraction := ok_l_fraction (P := l.prog) (w := w) (base := base) (PySem.W.mg_of X G a12) F12 b12 B D_l_draw D_l_made
  have D_l_is_right := ok_l_is_right (P := l.prog) (w := w) (base := base) (PySem.W.mg_of X G a13) F13 b13 B D_added D_less D_times D_is_below D_ratio D_l_made D_parted
  have D_l_threes_right := ok_l_threes_right (P := l.prog) (w := w) (base := base) (PySem.W.mg_of X G a14) F14 b14 B D_added D_times D_less D_parted D_is_below
  have D_l_great_right := ok_l_great_right (P := l.prog) (w := w) (base := base) (PySem.W.mg_of X G a15) F15 b15 B D_l_draw D_ratio D_l_made D_l_is_right
  exact okF_law F16 B D_l_feed D_l_fraction D_l_made D_l_is_right D_added D_times D_l_threes_right D_l_great_right
end Lw
open PySem PySem.W PyProof.Rows
set_option maxRecDepth 100000 in
set_option maxHeartbeats 0 in
theorem PySem.Challenge.cw_ledclocks_k02_fractions_reckoned_holds : PySem.Challenge.rw_ledclocks_k02_fractions_reckoned.Holds := by
  w_on; o_law; k_head; (case hw => w_witness2)
  k_fill
  refine DL.walkD (l := PySem.Challenge.rw_ledclocks_k02_fractions_reckoned) (n := 63) (k := 6) (x := "_law_script") rfl (by decide) rfl ⟨rfl, by decide, by decide⟩ (fun w h Y => PySem.W.kIn_of Y) ?F
  case F =>
    intro w mg fa h KX G hmg
    refine' Lw.all_mk KX G hmg ?a1 ?l1 ?c1 ?k1 ?a2 ?l2 ?c2 ?k2 ?a3 ?l3 ?c3 ?k3 ?a4 ?l4 ?c4 ?k4 ?a5 ?l5 ?c5 ?k5 ?a6 ?l6 ?c6 ?k6 ?a7 ?l7 ?c7 ?k7 ?a8 ?l8 ?c8 ?k8 ?a9 ?l9 ?c9 ?k9 ?a10 ?l10 ?c10 ?k10 ?a11 ?l11 ?c11 ?k11 ?a12 ?l12 ?c12 ?k12 ?a13 ?l13 ?c13 ?k13 ?a14 ?l14 ?c14 ?k14 ?a15 ?l15 ?c15 ?k15 ?a16 ?l16 ?c16 ?k16 ?z_abs ?z_int ?z_len ?z_range ?z_repr
    (case a1 => k_is); (case l1 => k_is); (case c1 => k_is); (case k1 => k_is); (case a2 => k_is); (case l2 => k_is); (case c2 => k_is); (case k2 => k_is); (case a3 => k_is); (case l3 => k_is); (case c3 => k_is); (case k3 => k_is); (case a4 => k_is); (case l4 => k_is); (case c4 => k_is); (case k4 => k_is); (case a5 => k_is); (case l5 => k_is); (case c5 => k_is); (case k5 => k_is); (case a6 => k_is); (case l6 => k_is); (case c6 => k_is); (case k6 => k_is); (case a7 => k_is); (case l7 => k_is); (case c7 => k_is); (case k7 => k_is); (case a8 => k_is); (case l8 => k_is); (case c8 => k_is); (case k8 => k_is); (case a9 => k_is); (case l9 => k_is); (case c9 => k_is); (case k9 => k_is); (case a10 => k_is); (case l10 => k_is); (case c10 => k_is); (case k10 => k_is); (case a11 => k_is); (case l11 => k_is); (case c11 => k_is); (case k11 => k_is); (case a12 => k_is); (case l12 => k_is); (case c12 => k_is); (case k12 => k_is); (case a13 => k_is); (case l13 => k_is); (case c13 => k_is); (case k13 => k_is); (case a14 => k_is); (case l14 => k_is); (case c14 => k_is); (case k14 => k_is); (case a15 => k_is); (case l15 => k_is); (case c15 => k_is); (case k15 => k_is); (case a16 => k_is); (case l16 => k_is); (case c16 => k_is); (case k16 => k_is); (case z_abs => k_is); (case z_int => k_is); (case z_len => k_is); (case z_range => k_is); (case z_repr => k_is)
