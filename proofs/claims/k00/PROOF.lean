import PyProof.Rows.All
import Wide.All
import OpenK.AllK
import Wide.FinOn
import KE.KStateDown
import Lean
import HandS.ForMost
import HandS.Exc
import HandS.Flow
import HandS.Style
import HandS.More
import HandS.TupAny
import HandS.IsInst
import HandS.WideBits
import HandS.Defaults
import HandS.ExcOwn
import HandS.TryOnly
import HandS.CallSlots
import HandS.CallLocal
import HandS.HeadHook1
import HandS.WordsExc
import HandS.Head0
import HandS.Head1
import HandS.Head2
import HandS.HeadEnd
import HandS.HeadHook2
import KE.RegMulBits
import PySem.Challenge.RW_roundonce_k00_whole_fractions
set_option Elab.async false
set_option autoImplicit false
set_option linter.all false
set_option maxRecDepth 100000
/-! The D-layer: values as data, over HandS. -/
namespace DL
open PySem PySem.Spec PyProof.Rows L2
/-! ### data -/
inductive D where
  | non | bl (b : Bool) | int (i : Int) | str (s : Str) | tup (xs : List D) | lst (xs : List D) | dic (ks : List Key) (vs : List D) | ref (a : Addr) | ty (n : String) | fn (j : Nat)
instance : Inhabited D := ⟨.non⟩
/-- the text: its written part, where its callables, error classes, own classes stand -/
structure Tx where
  K : PySem.W.Frag
  fA : Nat → Addr
  xA : Nat → Addr
  cA : Nat → Addr
/-- a locked thing, or one of the text's own -/
def Fz (H : Hp) (a : Addr) (u : HO) : Prop := ∃ o, H a = some (.frz o u)
def FzL (K : PySem.W.Frag) (H : Hp) (a : Addr) (xs : List V) : Prop :=
  Fz H a (.lst xs) ∨
    ∃ (o : Obj) (its : Array Value) (n : Nat), K.lookup a = some o ∧ o.cls = .type "list" ∧ o.dict = none ∧ o.data = .seq its n ∧ its.size ≤ sizeLine ∧ Vals xs its.toList
theorem FzL.seq {K : PySem.W.Frag} {H : Hp} {a : Addr} {xs : List V} (h : FzL K H a xs) : SqL K H a xs := by
  rcases h with h | h
  · exact .inl (.inr h)
  · exact .inr h
mutual
inductive Den (T : Tx) (H : Hp) : V → D → Prop where
  | non : Den T H .non .non
  | bl (b : Bool) : Den T H (.bl b) (.bl b)
  | int (i : Int) : Den T H (.int i) (.int i)
  | str (s : Str) (h : s.length ≤ sizeLine) : Den T H (.str s) (.str s)
  | ty (n : String) : Den T H (.ty n) (.ty n)
  | ref (a : Addr) : Den T H (.ref a) (.ref a)
  | fn (j : Nat) : Den T H (.ref (T.fA j)) (.fn j)
  | tup {a : Addr} {vs : List V} {ds : List D} (h : SqT T.K H a vs) (r : DenL T H vs ds) : Den T H (.ref a) (.tup ds)
  | lst {a : Addr} {vs : List V} {ds : List D} (h : FzL T.K H a vs) (r : DenL T H vs ds) : Den T H (.ref a) (.lst ds)
  | dic {a : Addr} {ks : List Key} {vs : List V} {ds : List D} (h : Fz H a (.dK (ks.zip vs))) (hl : ks.length = vs.length) (r : DenL T H vs ds) : Den T H (.ref a) (.dic ks ds)
inductive DenL (T : Tx) (H : Hp) : List V → List D → Prop where
  | nil : DenL T H [] []
  | cons {v : V} {d : D} {vs : List V} {ds : List D} (h : Den T H v d) (r : DenL T H vs ds) : DenL T H (v :: vs) (d :: ds)
end
/-- what stays of a heap: tuples and what is locked -/
structure Stb (H H' : Hp) : Prop where
  tup : ∀ a xs, H a = some (.tup xs) → H' a = some (.tup xs)
  frz : ∀ a o u, H a = some (.frz o u) → H' a = some (.frz o u)
theorem Stb.refl (H : Hp) : Stb H H := ⟨fun _ _ h => h, fun _ _ _ h => h⟩
theorem Stb.trans {H H1 H2 : Hp} (a : Stb H H1) (b : Stb H1 H2) : Stb H H2 := ⟨fun c xs h => b.tup c xs (a.tup c xs h), fun c o u h => b.frz c o u (a.frz c o u h)⟩
/-- a new object -/
theorem Stb.new {H : Hp} {p : Addr} {o : HO} (n : H p = none) : Stb H (upd H p o) := ⟨fun a xs h => by rw [upd_ne (ne_of_none h n)]; exact h, fun a o u h => by rw [upd_ne (ne_of_none h n)]; exact h⟩
/-- what may be written is written -/
def Wr : Option HO → Prop
  | some (.lst _) => True
  | some (.dK _) => True
  | some (.ins _ _ _) => True
  | some (.ext _) => True
  | some (.xd _) => True
  | _ => False
theorem Stb.wr {H : Hp} {p : Addr} {o : HO} (n : Wr (H p)) : Stb H (upd H p o) := by
  refine ⟨fun a xs h => ?_, fun a o u h => ?_⟩
  · have e : a ≠ p := by rintro rfl; rw [h] at n; exact n
    rw [upd_ne e]; exact h
  · have e : a ≠ p := by rintro rfl; rw [h] at n; exact n
    rw [upd_ne e]; exact h
theorem SqT.stb {K : PySem.W.Frag} {H H' : Hp} {a : Addr} {xs : List V} (s : Stb H H') (h : SqT K H a xs) : SqT K H' a xs := by
  rcases h with (h | ⟨o, h⟩) | h
  · exact .inl (.inl (s.tup _ _ h))
  · exact .inl (.inr ⟨o, s.frz _ _ _ h⟩)
  · exact .inr h
theorem Fz.stb {H H' : Hp} {a : Addr} {u : HO} (s : Stb H H') (h : Fz H a u) : Fz H' a u := let ⟨o, e⟩ := h; ⟨o, s.frz _ _ _ e⟩
theorem FzL.stb {K : PySem.W.Frag} {H H' : Hp} {a : Addr} {xs : List V} (s : Stb H H') (h : FzL K H a xs) : FzL K H' a xs := h.elim (fun q => .inl (q.stb s)) .inr
mutual
theorem Den.stb {T : Tx} {H H' : Hp} (s : Stb H H') : ∀ {v : V} {d : D}, Den T H v d → Den T H' v d
  | _, _, .non => .non
  | _, _, .bl b => .bl b
  | _, _, .int i => .int i
  | _, _, .str z h => .str z h
  | _, _, .ty n => .ty n
  | _, _, .ref a => .ref a
  | _, _, .fn j => .fn j
  | _, _, .tup h r => .tup (SqT.stb s h) (DenL.stb s r)
  | _, _, .lst h r => .lst (h.stb s) (DenL.stb s r)
  | _, _, .dic h hl r => .dic (h.stb s) hl (DenL.stb s r)
theorem DenL.stb {T : Tx} {H H' : Hp} (s : Stb H H') : ∀ {vs : List V} {ds : List D}, DenL T H vs ds → DenL T H' vs ds
  | _, _, .nil => .nil
  | _, _, .cons h r => .cons (Den.stb s h) (DenL.stb s r)
end
section
variable {T : Tx} {H : Hp}
theorem DenL.length : ∀ {vs : List V} {ds : List D}, DenL T H vs ds → vs.length = ds.length
  | _, _, .nil => rfl
  | _, _, .cons _ r => congrArg Nat.succ r.length
theorem DenL.get : ∀ {vs : List V} {ds : List D} {i : Nat} {d : D}, DenL T H vs ds → ds[i]? = some d → ∃ v, vs[i]? = some v ∧ Den T H v d
  | _, _, _, _, .nil, e => by simp at e
  | _, _, 0, _, .cons h _, e => by simp at e; subst e; exact ⟨_, rfl, h⟩
  | _, _, i + 1, d, .cons _ r, e => by
    obtain ⟨v, h1, h2⟩ := DenL.get (i := i) (d := d) r (by simpa using e)
    exact ⟨v, by simpa using h1, h2⟩
theorem DenL.append : ∀ {vs ws : List V} {ds es : List D}, DenL T H vs ds → DenL T H ws es → DenL T H (vs ++ ws) (ds ++ es)
  | _, _, _, _, .nil, s => s
  | _, _, _, _, .cons h r, s => .cons h (r.append s)
theorem DenL.set {v : V} {d : D} (h : Den T H v d) : ∀ {vs : List V} {ds : List D} (i : Nat), DenL T H vs ds → DenL T H (vs.set i v) (ds.set i d)
  | _, _, _, .nil => .nil
  | _, _, 0, .cons _ r => .cons h r
  | _, _, i + 1, .cons q r => .cons q (DenL.set h i r)
theorem DenL.take : ∀ {vs : List V} {ds : List D} (n : Nat), DenL T H vs ds → DenL T H (vs.take n) (ds.take n)
  | _, _, 0, _ => .nil
  | _, _, _ + 1, .nil => .nil
  | _, _, n + 1, .cons h r => .cons h (r.take n)
theorem DenL.drop : ∀ {vs : List V} {ds : List D} (n : Nat), DenL T H vs ds → DenL T H (vs.drop n) (ds.drop n)
  | _, _, 0, r => r
  | _, _, _ + 1, .nil => .nil
  | _, _, n + 1, .cons _ r => r.drop n
end
/-! ### what may change: lists, instances -/
inductive MO where
  | lst (xs : List D)
  | ins (c : Nat) (fs : List (Str × D))
abbrev Mem := Addr → Option MO
def DenF (T : Tx) (H : Hp) : List (Str × V) → List (Str × D) → Prop := Paired fun p q => p.1 = q.1 ∧ Den T H p.2 q.2
def MOk (T : Tx) (H : Hp) (a : Addr) : MO → Prop
  | .lst ds => ∃ vs, H a = some (.lst vs) ∧ DenL T H vs ds
  | .ins c fs => ∃ dx vs, H a = some (.ins (T.cA c) dx vs) ∧ DenF T H vs fs
def MemOk (T : Tx) (H : Hp) (M : Mem) : Prop := ∀ a o, M a = some o → MOk T H a o
def Mem.put (M : Mem) (a : Addr) (o : MO) : Mem := fun b => if b = a then some o else M b
def Mem.del (M : Mem) (a : Addr) : Mem := fun b => if b = a then none else M b
def Mem.none : Mem := fun _ => Option.none
theorem Mem.put_same {M : Mem} {a : Addr} {o : MO} : M.put a o a = some o := if_pos rfl
theorem Mem.put_ne {M : Mem} {a b : Addr} {o : MO} (h : b ≠ a) : M.put a o b = M b := if_neg h
theorem Mem.put_put {M : Mem} {a : Addr} {o u : MO} : (M.put a o).put a u = M.put a u := by funext b; unfold Mem.put; split <;> rfl
theorem Mem.del_put {M : Mem} {a : Addr} {o : MO} (h : M a = Option.none) : (M.put a o).del a = M := by
  funext b; unfold Mem.put Mem.del
  by_cases e : b = a
  · rw [if_pos e, e, h]
  · rw [if_neg e]; exact if_neg e
/-- less is known -/
def Mem.le (M M' : Mem) : Prop := ∀ a o, M a = some o → M' a = some o
theorem Mem.le_refl (M : Mem) : M.le M := fun _ _ h => h
theorem Mem.le_put {M : Mem} {a : Addr} {o : MO} (h : M a = Option.none) : M.le (M.put a o) := fun b u e => by
  rw [Mem.put_ne]; exact e
  rintro rfl; rw [h] at e; cases e
theorem Mem.le_trans {M M1 M2 : Mem} (a : M.le M1) (b : M1.le M2) : M.le M2 := fun c o h => b c o (a c o h)
theorem MemOk.le {T : Tx} {H : Hp} {M M' : Mem} (h : MemOk T H M') (l : M.le M') : MemOk T H M := fun a o e => h a o (l a o e)
section
variable {T : Tx} {H H' : Hp} {M : Mem} {p : Addr}
theorem DenF.stb (s : Stb H H') : ∀ {vs : List (Str × V)} {fs : List (Str × D)}, DenF T H vs fs → DenF T H' vs fs
  | _, _, .nil => .nil
  | _, _, .cons h r => .cons ⟨h.1, h.2.stb s⟩ (DenF.stb s r)
/-- an object that is kept -/
theorem MOk.keep {o : MO} {a : Addr} (s : Stb H H') (k : ∀ u, H a = some u → H' a = some u) (h : MOk T H a o) : MOk T H' a o := by
  cases o with
  | lst ds => obtain ⟨vs, e, r⟩ := h; exact ⟨vs, k _ e, r.stb s⟩
  | ins C fs => obtain ⟨dx, vs, e, r⟩ := h; exact ⟨dx, vs, k _ e, r.stb s⟩
theorem MOk.there {o : MO} {a : Addr} (h : MOk T H a o) : ∃ u, H a = some u := by
  cases o with
  | lst ds => obtain ⟨vs, e, r⟩ := h; exact ⟨_, e⟩
  | ins C fs => obtain ⟨dx, vs, e, r⟩ := h; exact ⟨_, e⟩
theorem MemOk.free (h : MemOk T H M) (n : H p = none) : M p = none := by
  cases e : M p with
  | none => rfl
  | some o => obtain ⟨u, q⟩ := (h p o e).there; rw [n] at q; cases q
/-- a new object that is not tracked here -/
theorem MemOk.new {o : HO} (h : MemOk T H M) (n : H p = none) : MemOk T (upd H p o) M := fun a u e =>
  (h a u e).keep (Stb.new n) fun v q => by rw [upd_ne (ne_of_none q n)]; exact q
/-- an object is written -/
theorem MemOk.put {o : HO} {m : MO} (h : MemOk T H M) (s : Stb H (upd H p o)) (new : MOk T (upd H p o) p m) : MemOk T (upd H p o) (M.put p m) := fun a u e => by
  by_cases q : a = p
  · subst q; rw [Mem.put_same] at e; cases e; exact new
  · rw [Mem.put_ne q] at e
    exact (h a u e).keep s fun v z => by rw [upd_ne q]; exact z
/-- an object of which nothing is known any more -/
theorem MemOk.del {o : HO} (h : MemOk T H M) (s : Stb H (upd H p o)) : MemOk T (upd H p o) (M.del p) := fun a u e => by
  unfold Mem.del at e
  by_cases q : a = p
  · rw [if_pos q] at e; cases e
  · rw [if_neg q] at e
    exact (h a u e).keep s fun v z => by rw [upd_ne q]; exact z
theorem MemOk.none : MemOk T H Mem.none := fun _ _ e => by cases e
end
/-! ### slots -/
abbrev Ev := List (Option D)
structure EnvOk (T : Tx) (H : Hp) (σ : L2.St) (δ : Ev) : Prop where
  len : σ.length = δ.length
  get : ∀ (i : Nat) (d : D), δ[i]? = some (some d) → ∃ v, σ[i]? = some (some v) ∧ Den T H v d
theorem EnvOk.stb {T : Tx} {H H' : Hp} {σ : L2.St} {δ : Ev} (s : Stb H H') (h : EnvOk T H σ δ) : EnvOk T H' σ δ := ⟨h.len, fun i d e => let ⟨v, a, b⟩ := h.get i d e; ⟨v, a, b.stb s⟩⟩
theorem EnvOk.set {T : Tx} {H : Hp} {σ : L2.St} {δ : Ev} {v : V} {d : D} (h : EnvOk T H σ δ) (r : Den T H v d) (i : Nat) : EnvOk T H (σ.set i (some v)) (δ.set i (some d)) := by
  refine ⟨by simp [h.len], fun j e q => ?_⟩
  by_cases z : i = j
  · subst z
    have hi : i < δ.length := by
      have := (List.getElem?_eq_some_iff.mp q).1
      simpa using this
    rw [List.getElem?_set_self hi] at q
    cases q
    exact ⟨v, by rw [List.getElem?_set_self (by rw [h.len]; exact hi)], r⟩
  · rw [List.getElem?_set_ne z] at q
    rw [List.getElem?_set_ne z]
    exact h.get j e q
theorem EnvOk.setN {T : Tx} {H : Hp} {σ : L2.St} {δ : Ev} (h : EnvOk T H σ δ) (i : Nat) : EnvOk T H (σ.set i none) (δ.set i none) := by
  refine ⟨by simp [h.len], fun j e q => ?_⟩
  by_cases z : i = j
  · subst z
    have hi : i < δ.length := by
      have := (List.getElem?_eq_some_iff.mp q).1
      simpa using this
    rw [List.getElem?_set_self hi] at q
    cases q
  · rw [List.getElem?_set_ne z] at q
    rw [List.getElem?_set_ne z]
    exact h.get j e q
def wipeD (δ : Ev) : List Nat → Ev
  | [] => δ
  | v :: vs => (wipeD δ vs).set v none
theorem EnvOk.wipe {T : Tx} {H : Hp} {σ : L2.St} {δ : Ev} (h : EnvOk T H σ δ) : ∀ vs, EnvOk T H (L2.wipe σ vs) (wipeD δ vs)
  | [] => h
  | v :: vs => (h.wipe vs).setN v
/-- the state: since the entry what stays has stayed; slots; what may change -/
structure Rl (T : Tx) (H0 : Hp) (σ : L2.St) (H : Hp) (δ : Ev) (M : Mem) : Prop where
  base : Stb H0 H
  env : EnvOk T H σ δ
  mem : MemOk T H M
section
variable {T : Tx} {H0 H H' : Hp} {σ : L2.St} {δ : Ev} {M M' : Mem}
theorem Rl.to (r : Rl T H0 σ H δ M) (s : Stb H H') (m : MemOk T H' M') : Rl T H0 σ H' δ M' := ⟨r.base.trans s, r.env.stb s, m⟩
theorem Rl.new {p : Addr} {o : HO} (r : Rl T H0 σ H δ M) (n : H p = none) : Rl T H0 σ (upd H p o) δ M := r.to (Stb.new n) (r.mem.new n)
end
/-! ### weakest preconditions over data -/
abbrev QD := D → Mem → Prop
abbrev WpE := Ev → Mem → QD → Prop
abbrev WpT := Ev → Mem → (Bool → Mem → Prop) → Prop
abbrev WpA := Ev → Mem → (List D → Mem → Prop) → Prop
structure En where
  nx : Ev → Mem → Prop
  rt : QD
  bk : Ev → Mem → Prop := fun _ _ => False
  ct : Ev → Mem → Prop := fun _ _ => False
abbrev WpS := En → Ev → Mem → Prop
/-- an exception: which of the text's classes, its fields -/
abbrev XD := Nat → List (Str × D) → Mem → Prop
abbrev WD := Nat → List (Str × D) → Ev → Mem → Prop
def liftE (T : Tx) (H0 : Hp) (w : WpE) : TE := fun σ H k => ∃ δ M Q, Rl T H0 σ H δ M ∧ w δ M Q ∧ ∀ v H' d M', Rl T H0 σ H' δ M' → Stb H H' → Den T H' v d → Q d M' → k v H'
def liftT (T : Tx) (H0 : Hp) (w : WpT) : TT := fun σ H k => ∃ δ M Q, Rl T H0 σ H δ M ∧ w δ M Q ∧ ∀ b H' M', Rl T H0 σ H' δ M' → Stb H H' → Q b M' → k b H'
def liftA (T : Tx) (H0 : Hp) (w : WpA) : TA := fun σ H k => ∃ δ M Q, Rl T H0 σ H δ M ∧ w δ M Q ∧ ∀ vs H' ds M', Rl T H0 σ H' δ M' → Stb H H' → DenL T H' vs ds → Q ds M' → k vs H'
def liftS (T : Tx) (H0 : Hp) (w : WpS) : TS := fun D σ H => ∃ δ M E, Rl T H0 σ H δ M ∧ w E δ M ∧
  (∀ σ' H' δ' M', Rl T H0 σ' H' δ' M' → Stb H H' → E.nx δ' M' → D.nx σ' H') ∧ (∀ v H' d M', Stb H0 H' → Stb H H' → MemOk T H' M' → Den T H' v d → E.rt d M' → D.rt v H') ∧
  (∀ σ' H' δ' M', Rl T H0 σ' H' δ' M' → Stb H H' → E.bk δ' M' → D.bk σ' H') ∧ (∀ σ' H' δ' M', Rl T H0 σ' H' δ' M' → Stb H H' → E.ct δ' M' → D.ct σ' H')
/-- an exception's fields -/
def ExF (T : Tx) (H : Hp) (d : Option Addr) (fs : List (Str × D)) : Prop := match d with
  | none => fs = []
  | some a => ∃ vs, H a = some (.xd vs) ∧ DenF T H vs fs
def liftW (T : Tx) (H0 : Hp) (W : WD) : WX := fun cls d σ H => ∃ j fs δ M, cls = .ref (T.xA j) ∧ ExF T H d fs ∧ Rl T H0 σ H δ M ∧ W j fs δ M
/-- a contract over data -/
abbrev DSp := List D → Mem → QD → XD → Prop
def liftSp (T : Tx) (n : Nat) (φ : DSp) : Sp := fun vs H Q E => ∃ ds M QQ EE, vs.length = n ∧ DenL T H vs ds ∧ MemOk T H M ∧ φ ds M QQ EE ∧
  (∀ v H' d M', Stb H H' → MemOk T H' M' → Den T H' v d → QQ d M' → Q v H') ∧ (∀ j d fs H' M', Stb H H' → MemOk T H' M' → ExF T H' d fs → EE j fs M' → E (.ref (T.xA j)) d H')
section
variable {X : Cx}
theorem _root_.L2.PE.weak {e : Expr} {t t' : TE} (h : PE X e t) (w : ∀ σ H k, t' σ H k → t σ H k) : PE X e t' := ⟨fun p s σ H k I q => h.run p s σ H k I (w σ H k q)⟩
theorem _root_.L2.PT.weak {e : Expr} {t t' : TT} (h : PT X e t) (w : ∀ σ H k, t' σ H k → t σ H k) : PT X e t' := ⟨fun p s σ H k I q => h.run p s σ H k I (w σ H k q)⟩
theorem _root_.L2.PW.weak {e : Expr} {t t' : TT} (h : PW X e t) (w : ∀ σ H k, t' σ H k → t σ H k) : PW X e t' := ⟨fun wh p s σ H k I q => h.run wh p s σ H k I (w σ H k q)⟩
theorem _root_.L2.PA.weak {e : List Expr} {t t' : TA} (h : PA X e t) (w : ∀ σ H k, t' σ H k → t σ H k) : PA X e t' := ⟨fun pos p s σ H k I q => h.run pos p s σ H k I (w σ H k q)⟩
theorem _root_.L2.PS.weak {st : Stmt} {t t' : TS} (h : PS X st t) (w : ∀ D σ H, t' D σ H → t D σ H) : PS X st t' := ⟨fun p s σ H D I q => h.run p s σ H D I (w D σ H q)⟩
theorem _root_.L2.PSs.weak {st : List Stmt} {t t' : TS} (h : PSs X st t) (w : ∀ D σ H, t' D σ H → t D σ H) : PSs X st t' := ⟨fun p s σ H D I q => h.run p s σ H D I (w D σ H q)⟩
end
end DL
namespace DL
open PySem PySem.Spec PyProof.Rows L2
/-! ### a new list is locked: from then on it is data -/
theorem lock_inv {X : Cx} {pins : List (Addr × Obj)} {σ : L2.St} {H : Hp} {s : Shared} {p : Addr} {u : HO} (I : Inv X pins σ H s) (hp : H p = some u) (hu : (∃ xs, u = .lst xs) ∨ ∃ kvs, u = .dK kvs) :
    ∃ o, Inv X pins σ (upd H p (.frz o u)) s := by
  have hobj : ∃ o, s.heap.get? p = some o ∧ ∀ H' : Hp, ObjOk X.prog X.w H' s.heap p u := by
    have q := I.hok p u hp
    rcases hu with ⟨xs, rfl⟩ | ⟨kvs, rfl⟩
    · obtain ⟨z, its, n, r, e⟩ := (show ObjOk X.prog X.w H s.heap p (.lst xs) from q)
      exact ⟨_, e, fun H' => ⟨z, its, n, r, e⟩⟩
    · obtain ⟨z, y, vs, r, o, es, ep, e, c⟩ := (show ObjOk X.prog X.w H s.heap p (.dK kvs) from q)
      exact ⟨_, e, fun H' => ⟨z, y, vs, r, o, es, ep, e, c⟩⟩
  obtain ⟨o, eo, all⟩ := hobj
  have nm : ∀ (b : Addr) (v : HO), H b = some v → ((∀ xs, v ≠ .lst xs) ∧ ∀ kvs, v ≠ .dK kvs) → b ≠ p := fun b v e n z => by
    subst z
    rw [hp] at e
    cases e
    rcases hu with ⟨xs, rfl⟩ | ⟨kvs, rfl⟩
    · exact n.1 xs rfl
    · exact n.2 kvs rfl
  refine ⟨o, I.un (h' := s.heap) (t' := s.toks) ⟨fun b v e _ _ _ => e, fun b v e _ _ _ => ⟨v.slots, e⟩, fun b v e n _ => ?_, fun b v e _ => ⟨v, e⟩, fun b xs e => ?_, fun b v xs e => ?_, fun b ps e => ⟨#[], ?_⟩⟩ fun b v e => ?_⟩
  · have : b ≠ p := by rintro rfl; rw [hp] at n; cases n
    rw [upd_ne this]; exact n
  · rw [upd_ne (nm b _ e ⟨(fun _ z => nomatch z), (fun _ z => nomatch z)⟩)]; exact e
  · rw [upd_ne (nm b _ e ⟨(fun _ z => nomatch z), (fun _ z => nomatch z)⟩)]; exact e
  · rw [upd_ne (nm b _ e ⟨(fun _ z => nomatch z), (fun _ z => nomatch z)⟩), e]; simp
  · by_cases hb : b = p
    · subst hb
      rw [upd_same] at e
      cases e
      exact ⟨eo, all _⟩
    · rw [upd_ne hb] at e
      refine (I.hok b v e).stay (fun c w _ q => q) (fun c q => ?_) fun c xs q => ?_
      · rw [upd_ne (nm c _ q ⟨(fun _ z => nomatch z), (fun _ z => nomatch z)⟩)]; exact q
      · rw [upd_ne (nm c _ q ⟨(fun _ z => nomatch z), (fun _ z => nomatch z)⟩)]; exact q
/-- what a new list asks, locked at once -/
def lockQ (Q : VK) : VK := fun v H => ∃ p u, v = .ref p ∧ H p = some u ∧ ((∃ xs, u = .lst xs) ∨ ∃ kvs, u = .dK kvs) ∧ ∀ o, Q (.ref p) (upd H p (.frz o u))
theorem EP.lock {X : Cx} {pins : List (Addr × Obj)} {σ : L2.St} {Q : VK} {u : Value} {s : Shared} (h : EP X pins σ (lockQ Q) u s) : EP X pins σ Q u s := by
  obtain ⟨v, H, I, r, p, ho, rfl, hp, hu, q⟩ := h
  obtain ⟨o, I2⟩ := lock_inv I hp hu
  exact ⟨.ref p, _, I2, r, q o⟩
theorem OpR.lock {X : Cx} {f : Value → Value → Sem Value} {r : R2} (h : OpR X f r) : OpR X f (fun x y H Q => r x y H (lockQ Q)) := fun pins s σ H x y v u Q I rx ry q =>
  thn (h pins s σ H x y v u _ I rx ry q) fun _ _ z => EP.lock z
theorem CallR.lock {X : Cx} {f : Value} {r : List V → Hp → VK → Prop} (h : CallR X f r) : CallR X f (fun xs H Q => r xs H (lockQ Q)) := fun pins s σ H xs us Q I rv q =>
  thn (h pins s σ H xs us _ I rv q) fun _ _ z => EP.lock z
theorem MtR.lock {X : Cx} {id : String} {r : V → List V → Hp → VK → Prop} (h : MtR X id r) : MtR X id (fun x xs H Q => r x xs H (lockQ Q)) := fun pins s σ H x xs v us Q I rx rv q =>
  thn (h pins s σ H x xs v us _ I rx rv q) fun _ _ z => EP.lock z
theorem PE.lock {X : Cx} {e : Expr} {t : TE} (h : PE X e t) : PE X e (fun σ H Q => t σ H (lockQ Q)) := ⟨fun pins s σ H Q I q => thn (h.run pins s σ H _ I q) fun _ _ z => EP.lock z⟩
/-- the locked new list -/
theorem lock_new {T : Tx} {H : Hp} {M : Mem} {p : Addr} {vs : List V} {ds : List D} {Q : VK} (n : H p = none) (hm : MemOk T H M) (r : DenL T H vs ds)
    (q : ∀ v H', Stb H H' → MemOk T H' M → Den T H' v (.lst ds) → Q v H') : lockQ Q (.ref p) (upd H p (.lst vs)) := by
  refine ⟨p, _, rfl, upd_same, .inl ⟨vs, rfl⟩, fun o => ?_⟩
  rw [upd_upd]
  exact q _ _ (Stb.new n) (hm.new n) (.lst (.inl ⟨o, upd_same⟩) (r.stb (Stb.new n)))
/-- what is asked of what is there -/
def opt {α : Type} (o : Option α) (f : α → Prop) : Prop := match o with
  | some a => f a
  | none => False
theorem opt_some {α : Type} {a : α} {f : α → Prop} : opt (some a) f = f a := rfl
theorem ofOpt {α : Type} {o : Option α} {f : α → Prop} (h : opt o f) : ∃ a, o = some a ∧ f a := by
  cases o with
  | none => exact h.elim
  | some a => exact ⟨a, rfl, h⟩
/-! ### data as the library's -/
mutual
def pyD : D → Option PyData
  | .non => some .none
  | .bl b => some (.bool b)
  | .int i => some (.int i)
  | .str s => some (.str s)
  | .tup xs => (pyDs xs).map .tuple
  | .lst xs => (pyDs xs).map .list
  | .dic _ _ => none
  | .ref _ => none
  | .ty _ => none
  | .fn _ => none
def pyDs : List D → Option (List PyData)
  | [] => some []
  | d :: ds => match pyD d, pyDs ds with
    | some p, some ps => some (p :: ps)
    | _, _ => none
end
section
variable {T : Tx} {H : Hp}
mutual
theorem Den.dp : ∀ {v : V} {d : D} {p : PyData}, Den T H v d → pyD d = some p → Dp T.K H v p
  | _, _, _, .non, e => by cases e; exact .non
  | _, _, _, .bl b, e => by cases e; exact .bl b
  | _, _, _, .int i, e => by cases e; exact .int i
  | _, _, _, .str z h, e => by cases e; exact .str z
  | _, _, _, .ty n, e => by cases e
  | _, _, _, .ref a, e => by cases e
  | _, _, _, .fn j, e => by cases e
  | _, _, _, .dic h hl r, e => by cases e
  | _, .tup ds, _, .tup h r, e => by
    have e' : (pyDs ds).map PyData.tuple = some _ := e
    cases q : pyDs ds with
    | none => rw [q] at e'; cases e'
    | some ps =>
      rw [q] at e'
      cases e'
      exact .tup h (DenL.dp r q)
  | _, .lst ds, _, .lst h r, e => by
    have e' : (pyDs ds).map PyData.list = some _ := e
    cases q : pyDs ds with
    | none => rw [q] at e'; cases e'
    | some ps =>
      rw [q] at e'
      cases e'
      exact .lst h.seq (DenL.dp r q)
theorem DenL.dp : ∀ {vs : List V} {ds : List D} {ps : List PyData}, DenL T H vs ds → pyDs ds = some ps → DpAll T.K H vs ps
  | _, _, _, .nil, e => by cases e; exact .nil
  | _, d :: ds, _, .cons h r, e => by
    have e' : (match pyD d, pyDs ds with
      | some p, some ps => some (p :: ps)
      | _, _ => none) = some _ := e
    cases q1 : pyD d with
    | none => rw [q1] at e'; cases e'
    | some p =>
      cases q2 : pyDs ds with
      | none => rw [q1, q2] at e'; cases e'
      | some ps =>
        rw [q1, q2] at e'
        cases e'
        exact .cons (Den.dp h q1) (DenL.dp r q2)
end
end
/-- a list that may change is read as it stands -/
def rdM (M : Mem) (d : D) : D := match d with
  | .ref a => match M a with
    | some (.lst ds) => .lst ds
    | _ => d
  | _ => d
/-- the items of a list -/
def lsM (M : Mem) (d : D) : Option (List D) := match d with
  | .lst ds => some ds
  | .ref a => match M a with
    | some (.lst ds) => some ds
    | _ => none
  | _ => none
def sqM (M : Mem) (d : D) : Option (List D) := match d with
  | .tup ds => some ds
  | d => lsM M d
theorem lsM_ok {T : Tx} {H : Hp} {M : Mem} {v : V} {d : D} {ds : List D} (hm : MemOk T H M) (h : Den T H v d) (e : lsM M d = some ds) : ∃ a vs, v = .ref a ∧ SqL T.K H a vs ∧ DenL T H vs ds := by
  cases h with
  | lst hs r => cases e; exact ⟨_, _, rfl, hs.seq, r⟩
  | ref a =>
    have e' : (match M a with
      | some (.lst ds) => some ds
      | _ => none) = some ds := e
    cases q : M a with
    | none => rw [q] at e'; cases e'
    | some o =>
      rw [q] at e'
      cases o with
      | lst es =>
        cases e'
        obtain ⟨vs, hh, r⟩ := hm a _ q
        exact ⟨a, vs, rfl, SqL.of hh, r⟩
      | ins c fs => cases e'
  | _ => cases e
theorem sqM_ok {T : Tx} {H : Hp} {M : Mem} {v : V} {d : D} {ds : List D} (hm : MemOk T H M) (h : Den T H v d) (e : sqM M d = some ds) : ∃ a vs, v = .ref a ∧ (SqL T.K H a vs ∨ SqT T.K H a vs) ∧ DenL T H vs ds := by
  by_cases z : ∃ es, d = .tup es
  · obtain ⟨es, rfl⟩ := z
    cases e
    cases h with
    | tup hs r => exact ⟨_, _, rfl, .inr hs, r⟩
  · have e' : lsM M d = some ds := by
      cases d with
      | tup es => exact absurd ⟨es, rfl⟩ z
      | _ => exact e
    obtain ⟨a, vs, q1, q2, q3⟩ := lsM_ok hm h e'
    exact ⟨a, vs, q1, .inl q2, q3⟩
theorem rdM_dp {T : Tx} {H : Hp} {M : Mem} {v : V} {d : D} {p : PyData} (hm : MemOk T H M) (h : Den T H v d) (e : pyD (rdM M d) = some p) : Dp T.K H v p := by
  cases h with
  | ref a =>
    have e' : pyD (match M a with
      | some (.lst ds) => D.lst ds
      | _ => D.ref a) = some p := e
    cases q : M a with
    | none => rw [q] at e'; cases e'
    | some o =>
      rw [q] at e'
      cases o with
      | lst es =>
        obtain ⟨vs, hh, r⟩ := hm a _ q
        have e2 : (pyDs es).map PyData.list = some p := e'
        cases q2 : pyDs es with
        | none => rw [q2] at e2; cases e2
        | some ps =>
          rw [q2] at e2
          cases e2
          exact .lst (SqL.of hh) (r.dp q2)
      | ins c fs => cases e'
  | non => exact Den.dp .non e
  | bl b => exact Den.dp (.bl b) e
  | int i => exact Den.dp (.int i) e
  | str z h => exact Den.dp (.str z h) e
  | ty n => cases e
  | fn j => cases e
  | tup hs r => exact Den.dp (.tup hs r) e
  | lst hs r => exact Den.dp (.lst hs r) e
  | dic hs hl r => cases e
/-! ### operators -/
def CDv (i j : Int) : Prop := j ≠ 0 ∧ Builtin.divisionGoesByPylong i j = false
def wBin (op : Operator) (x y : D) (M : Mem) (Q : QD) : Prop := match op, x, y with
  | .Add, .int i, .int j => Q (.int (i + j)) M
  | .Add, .str a, .str b => a.length + b.length ≤ sizeLine ∧ Q (.str (a ++ b)) M
  | .Add, .tup a, .tup b => a.length + b.length ≤ sizeLine ∧ Q (.tup (a ++ b)) M
  | .Sub, .int i, .int j => Q (.int (i - j)) M
  | .Mult, .int i, .int j => IntMulOk i j ∧ Q (.int (i * j)) M
  | .FloorDiv, .int i, .int j => CDv i j ∧ Q (.int (i.fdiv j)) M
  | .Mod, .int i, .int j => j ≠ 0 ∧ Q (.int (i.fmod j)) M
  | .LShift, .int i, .int j => CShl i j ∧ Q (.int (i * 2 ^ j.toNat)) M
  | .Pow, .int i, .int j => CPow i j ∧ Q (.int (i ^ j.toNat)) M
  | _, _, _ => False
/-- a reading by data -/
def rD (T : Tx) (b : D → D → Mem → QD → Prop) : R2 := fun x y H k => ∃ dx dy M Q, Den T H x dx ∧ Den T H y dy ∧ MemOk T H M ∧ b dx dy M Q ∧ ∀ v H' d M', Stb H H' → MemOk T H' M' → Den T H' v d → Q d M' → k v H'
section
variable {X : Cx} {T : Tx}
theorem op_fdivD : OpR X (binaryOp .FloorDiv) (rI CDv fun i j => .int (i.fdiv j)) := opI fun _ _ _ _ _ _ _ hc q => floordiv_int hc.1 q (.inl hc.2)
theorem op_mulD : OpR X (binaryOp .Mult) (rI IntMulOk fun i j => .int (i * j)) := opI fun _ _ _ _ _ _ _ hc q => mul_int q hc
theorem op_binD (hT : X.K = T.K) (op : Operator) : OpR X (binaryOp op) (rD T (wBin op)) := by
  intro pins s σ H x y v u Q I rx ry ⟨dx, dy, M, QQ, hx, hy, hm, hw, kk⟩
  have fin : ∀ {w : V} {d : D}, Den T H w d → QQ d M → Q w H := fun hd q => kk _ _ _ _ (Stb.refl _) hm hd q
  cases op with
  | Add =>
    cases hx with
    | int i => cases hy with
      | int j => exact op_add pins s σ H _ _ v u Q I rx ry ⟨i, j, rfl, rfl, fin (.int _) hw⟩
      | _ => exact hw.elim
    | str a ha => cases hy with
      | str b hb => exact op_add_str pins s σ H _ _ v u Q I rx ry ⟨a, b, rfl, rfl, hw.1, fin (.str _ (by rw [Str.length_append]; exact hw.1)) hw.2⟩
      | _ => exact hw.elim
    | tup ha ra => cases hy with
      | tup hb rb =>
        rw [← hT] at ha hb
        have e1 := ra.length
        have e2 := rb.length
        refine op_catA pins s σ H _ _ v u Q I rx ry ⟨_, _, _, _, rfl, rfl, ha, hb, by rw [e1, e2]; exact hw.1, ?_⟩
        refine ⟨fun z => ?_, fun _ z => ?_, fun _ _ p n => ?_⟩
        · subst z
          cases ra
          exact fin (.tup (by rw [hT] at hb; exact hb) rb) hw.2
        · subst z
          cases rb
          have q := hw.2
          rw [List.append_nil] at q
          exact fin (.tup (by rw [hT] at ha; exact ha) ra) q
        · exact kk _ _ _ _ (Stb.new n) (hm.new n) (.tup (.inl (.inl upd_same)) ((ra.append rb).stb (Stb.new n))) hw.2
      | _ => exact hw.elim
    | _ => exact hw.elim
  | Sub =>
    cases hx with
    | int i => cases hy with
      | int j => exact op_sub pins s σ H _ _ v u Q I rx ry ⟨i, j, rfl, rfl, fin (.int _) hw⟩
      | _ => exact hw.elim
    | _ => exact hw.elim
  | Mult =>
    cases hx with
    | int i => cases hy with
      | int j => exact op_mulD pins s σ H _ _ v u Q I rx ry ⟨i, j, rfl, rfl, hw.1, fin (.int _) hw.2⟩
      | _ => exact hw.elim
    | _ => exact hw.elim
  | FloorDiv =>
    cases hx with
    | int i => cases hy with
      | int j => exact op_fdivD pins s σ H _ _ v u Q I rx ry ⟨i, j, rfl, rfl, hw.1, fin (.int _) hw.2⟩
      | _ => exact hw.elim
    | _ => exact hw.elim
  | Mod =>
    cases hx with
    | int i => cases hy with
      | int j => exact op_modN pins s σ H _ _ v u Q I rx ry ⟨i, j, rfl, rfl, hw.1, fin (.int _) hw.2⟩
      | _ => exact hw.elim
    | _ => exact hw.elim
  | LShift =>
    cases hx with
    | int i => cases hy with
      | int j => exact op_shlW pins s σ H _ _ v u Q I rx ry ⟨i, j, rfl, rfl, hw.1, fin (.int _) hw.2⟩
      | _ => exact hw.elim
    | _ => exact hw.elim
  | Pow =>
    cases hx with
    | int i => cases hy with
      | int j => exact op_pow pins s σ H _ _ v u Q I rx ry ⟨i, j, rfl, rfl, hw.1, fin (.int _) hw.2⟩
      | _ => exact hw.elim
    | _ => exact hw.elim
  | _ => exact (show False from hw).elim
end
end DL
namespace DL
open PySem PySem.Spec PyProof.Rows L2
/-! ### comparisons -/
def wEq (x y : D) (M : Mem) (k : Bool → Prop) : Prop := match x, y with
  | .int i, .int j => k (decide (i = j))
  | .str a, .str b => k (decide (a = b))
  | .bl a, .bl b => k (decide (a = b))
  | .non, .non => k true
  | x, y => ∃ p q, pyD (rdM M x) = some p ∧ pyD (rdM M y) = some q ∧ SeqAt.shaped p = true ∧ SeqAt.shaped q = true ∧ k (PyData.eqv p q)
def isNon : D → Bool
  | .non => true
  | _ => false
def wIs (x y : D) (k : Bool → Prop) : Prop := match x, y with
  | x, .non => k (isNon x)
  | .bl a, .bl b => k (decide (a = b))
  | _, _ => False
def flatD : D → Bool
  | .non => true
  | .bl _ => true
  | .int _ => true
  | .str _ => true
  | _ => false
def eqF : D → D → Bool
  | .non, .non => true
  | .bl a, .bl b => a == b
  | .bl a, .int b => (if a then 1 else 0) == b
  | .int a, .bl b => a == (if b then 1 else 0)
  | .int a, .int b => a == b
  | .str a, .str b => a == b
  | _, _ => false
def wIn (x y : D) (M : Mem) (k : Bool → Prop) : Prop := match y with
  | .str b => match x with
    | .str a => k (!(Builtin.Str.occurrences b a 0 b.length 1).isEmpty)
    | _ => False
  | y => ∃ ds, sqM M y = some ds ∧ flatD x = true ∧ ds.all flatD = true ∧ k (ds.any fun d => eqF d x)
def wOrd (p : Int → Int → Bool) (q : Str → Str → Bool) (x y : D) (k : Bool → Prop) : Prop := match x, y with
  | .int i, .int j => k (p i j)
  | .str a, .str b => k (q a b)
  | _, _ => False
def ltS (a b : Str) : Bool := decide (a.cps.toList < b.cps.toList)
def wCmp (op : CmpOp) (x y : D) (M : Mem) (Q : QD) : Prop := match op with
  | .Eq => wEq x y M fun b => Q (.bl b) M
  | .NotEq => wEq x y M fun b => Q (.bl (!b)) M
  | .Lt => wOrd (fun i j => decide (i < j)) (fun a b => ltS a b) x y fun b => Q (.bl b) M
  | .LtE => wOrd (fun i j => decide (i ≤ j)) (fun a b => !ltS b a) x y fun b => Q (.bl b) M
  | .Gt => wOrd (fun i j => decide (j < i)) (fun a b => ltS b a) x y fun b => Q (.bl b) M
  | .GtE => wOrd (fun i j => decide (j ≤ i)) (fun a b => !ltS a b) x y fun b => Q (.bl b) M
  | .Is => wIs x y fun b => Q (.bl b) M
  | .IsNot => wIs x y fun b => Q (.bl (!b)) M
  | .In => wIn x y M fun b => Q (.bl b) M
  | .NotIn => wIn x y M fun b => Q (.bl (!b)) M
section
variable {X : Cx} {T : Tx} {H : Hp} {M : Mem}
theorem wEq_dp {x y : D} {v u : V} {k : Bool → Prop} (hm : MemOk T H M) (hx : Den T H v x) (hy : Den T H u y) (h : wEq x y M k) :
    (∃ b, scal v u = true ∧ b = decide (v = u) ∧ k b) ∨ ∃ p q, Dp T.K H v p ∧ Dp T.K H u q ∧ SeqAt.shaped p = true ∧ SeqAt.shaped q = true ∧ k (PyData.eqv p q) := by
  have gen : (∃ p q, pyD (rdM M x) = some p ∧ pyD (rdM M y) = some q ∧ SeqAt.shaped p = true ∧ SeqAt.shaped q = true ∧ k (PyData.eqv p q)) →
      (∃ b, scal v u = true ∧ b = decide (v = u) ∧ k b) ∨ ∃ p q, Dp T.K H v p ∧ Dp T.K H u q ∧ SeqAt.shaped p = true ∧ SeqAt.shaped q = true ∧ k (PyData.eqv p q) := fun ⟨p, q, e1, e2, s1, s2, kk⟩ =>
    .inr ⟨p, q, rdM_dp hm hx e1, rdM_dp hm hy e2, s1, s2, kk⟩
  cases hx with
  | non => cases hy with
    | non => exact .inl ⟨true, rfl, by simp, h⟩
    | _ => exact gen h
  | int i => cases hy with
    | int j => exact .inl ⟨_, rfl, by simp, h⟩
    | _ => exact gen h
  | bl i => cases hy with
    | bl j => exact .inl ⟨_, rfl, by simp, h⟩
    | _ => exact gen h
  | str i _ => cases hy with
    | str j _ => exact .inl ⟨_, rfl, by simp, h⟩
    | _ => exact gen h
  | _ => cases hy <;> exact gen h
theorem flat_den {v : V} {d : D} (h : Den T H v d) (f : flatD d = true) : flatV v = true := by
  cases h <;> first | rfl | cases f
theorem flat_dens : ∀ {vs : List V} {ds : List D}, DenL T H vs ds → ds.all flatD = true → vs.all flatV = true
  | _, _, .nil, _ => rfl
  | _, _, .cons h r, f => by
    rw [List.all_cons, Bool.and_eq_true] at f
    rw [List.all_cons, flat_den h f.1, flat_dens r f.2] <;> rfl
theorem eqF_den {v u : V} {d e : D} (h : Den T H v d) (g : Den T H u e) (f : flatD d = true) (f2 : flatD e = true) : eqV v u = eqF d e := by
  cases h <;> cases g <;> first | rfl | exact absurd f Bool.false_ne_true | exact absurd f2 Bool.false_ne_true
theorem inF_den {u : V} {e : D} (g : Den T H u e) (f2 : flatD e = true) : ∀ {vs : List V} {ds : List D}, DenL T H vs ds → ds.all flatD = true → inV u vs = ds.any fun d => eqF d e
  | _, _, .nil, _ => rfl
  | _, _, .cons h r, f => by
    rw [List.all_cons, Bool.and_eq_true] at f
    have ih := inF_den g f2 r f.2
    unfold inV at ih ⊢
    rw [List.any_cons, List.any_cons, ih, eqF_den h g f.1 f2]
theorem op_cmpD (hT : X.K = T.K) (hu : X.A.units + 64 < cLine) (op : CmpOp) : OpR X (compareOp op) (rD T (wCmp op)) := by
  intro pins s σ H x y v u Q I rx ry ⟨dx, dy, M, QQ, hx, hy, hm, hw, kk⟩
  have fin : ∀ {b : Bool}, QQ (.bl b) M → Q (.bl b) H := fun q => kk _ _ _ _ (Stb.refl _) hm (.bl _) q
  have ord : ∀ {p : Int → Int → Bool} {q : Str → Str → Bool}, wOrd p q dx dy (fun b => QQ (.bl b) M) → (∃ i j, x = .int i ∧ y = .int j ∧ Q (.bl (p i j)) H) ∨ ∃ i j, x = .str i ∧ y = .str j ∧ Q (.bl (q i j)) H := fun {p q} h => by
    cases hx with
    | int i => cases hy with
      | int j => exact .inl ⟨i, j, rfl, rfl, fin h⟩
      | _ => exact h.elim
    | str i _ => cases hy with
      | str j _ => exact .inr ⟨i, j, rfl, rfl, fin h⟩
      | _ => exact h.elim
    | _ => exact (show False from h).elim
  cases op with
  | Eq =>
    rcases wEq_dp (k := fun b => QQ (.bl b) M) hm hx hy hw with ⟨b, h1, rfl, h3⟩ | ⟨p, q, h1, h2, h3, h4, h5⟩
    · exact op_eq pins s σ H _ _ v u Q I rx ry ⟨h1, fin h3⟩
    · exact op_eqD hu pins s σ H _ _ v u Q I rx ry ⟨p, q, by rw [hT]; exact h1, by rw [hT]; exact h2, h3, h4, fin h5⟩
  | NotEq =>
    rcases wEq_dp (k := fun b => QQ (.bl (!b)) M) hm hx hy hw with ⟨b, h1, rfl, h3⟩ | ⟨p, q, h1, h2, h3, h4, h5⟩
    · exact op_ne pins s σ H _ _ v u Q I rx ry ⟨h1, fin h3⟩
    · exact op_neD hu pins s σ H _ _ v u Q I rx ry ⟨p, q, by rw [hT]; exact h1, by rw [hT]; exact h2, h3, h4, fin h5⟩
  | Lt =>
    rcases ord hw with h | h
    · exact op_lt pins s σ H _ _ v u Q I rx ry h
    · exact op_lt_str pins s σ H _ _ v u Q I rx ry h
  | LtE =>
    rcases ord hw with h | h
    · exact op_le pins s σ H _ _ v u Q I rx ry h
    · exact op_le_str pins s σ H _ _ v u Q I rx ry h
  | Gt =>
    rcases ord hw with h | h
    · exact op_gt pins s σ H _ _ v u Q I rx ry h
    · exact op_gt_str pins s σ H _ _ v u Q I rx ry h
  | GtE =>
    rcases ord hw with h | h
    · exact op_ge pins s σ H _ _ v u Q I rx ry h
    · exact op_ge_str pins s σ H _ _ v u Q I rx ry h
  | Is =>
    cases hy with
    | non =>
      refine op_isN pins s σ H _ _ v u Q I rx ry ⟨rfl, ?_⟩
      cases hx <;> exact fin hw
    | bl b => cases hx with
      | bl a => exact op_isBl pins s σ H _ _ v u Q I rx ry ⟨a, b, rfl, rfl, fin hw⟩
      | _ => exact (show False from hw).elim
    | _ => cases hx <;> exact (show False from hw).elim
  | IsNot =>
    cases hy with
    | non =>
      refine op_notN pins s σ H _ _ v u Q I rx ry ⟨rfl, ?_⟩
      cases hx <;> exact fin hw
    | bl b => cases hx with
      | bl a => exact op_notBl pins s σ H _ _ v u Q I rx ry ⟨a, b, rfl, rfl, fin hw⟩
      | _ => exact (show False from hw).elim
    | _ => cases hx <;> exact (show False from hw).elim
  | In =>
    by_cases z : ∃ b, dy = .str b
    · obtain ⟨b, rfl⟩ := z
      cases hy
      cases hx with
      | str a _ => exact op_in_str pins s σ H _ _ v u Q I rx ry ⟨a, b, rfl, rfl, fin hw⟩
      | _ => exact (show False from hw).elim
    · have hw' : ∃ ds, sqM M dy = some ds ∧ flatD dx = true ∧ ds.all flatD = true ∧ QQ (.bl (ds.any fun d => eqF d dx)) M := by
        cases dy <;> first | exact absurd ⟨_, rfl⟩ z | exact hw
      obtain ⟨ds, h1, h2, h3, h4⟩ := hw'
      obtain ⟨a, vs, rfl, hq, r⟩ := sqM_ok hm hy h1
      rw [← hT] at hq
      refine op_in_seq pins s σ H _ _ v u Q I rx ry ⟨a, vs, rfl, hq, flat_den hx h2, flat_dens r h3, ?_⟩
      rw [if_neg Bool.false_ne_true, inF_den hx h2 r h3]
      exact fin h4
  | NotIn =>
    by_cases z : ∃ b, dy = .str b
    · obtain ⟨b, rfl⟩ := z
      cases hy
      cases hx with
      | str a _ => exact L2.op_notin_str pins s σ H _ _ v u Q I rx ry ⟨a, b, rfl, rfl, fin hw⟩
      | _ => exact (show False from hw).elim
    · have hw' : ∃ ds, sqM M dy = some ds ∧ flatD dx = true ∧ ds.all flatD = true ∧ QQ (.bl (!ds.any fun d => eqF d dx)) M := by
        cases dy <;> first | exact absurd ⟨_, rfl⟩ z | exact hw
      obtain ⟨ds, h1, h2, h3, h4⟩ := hw'
      obtain ⟨a, vs, rfl, hq, r⟩ := sqM_ok hm hy h1
      rw [← hT] at hq
      refine op_notIn_seq pins s σ H _ _ v u Q I rx ry ⟨a, vs, rfl, hq, flat_den hx h2, flat_dens r h3, ?_⟩
      rw [if_pos rfl, inF_den hx h2 r h3]
      exact fin h4
end
/-! ### truth -/
def dTru (d : D) (M : Mem) (k : Bool → Prop) : Prop := match d with
  | .non => k false
  | .bl b => k b
  | .int i => k (i != 0)
  | .str s => k ((s.length : Int) != 0)
  | .tup xs => k (!xs.isEmpty)
  | .lst xs => k (!xs.isEmpty)
  | .ref a => ∃ ds, M a = some (.lst ds) ∧ k (!ds.isEmpty)
  | _ => False
theorem DenL.isEmpty {T : Tx} {H : Hp} {vs : List V} {ds : List D} (r : DenL T H vs ds) : vs.isEmpty = ds.isEmpty := by cases r <;> rfl
theorem tru_den {T : Tx} {H : Hp} {M : Mem} {v : V} {d : D} {k : Bool → Prop} (hm : MemOk T H M) (h : Den T H v d) (w : dTru d M k) : ∃ b, TruV T.K v H b ∧ k b := by
  cases h with
  | non => exact ⟨_, rfl, w⟩
  | bl b => exact ⟨_, rfl, w⟩
  | int i => exact ⟨_, rfl, w⟩
  | str s hs => exact ⟨_, ⟨hs, rfl⟩, w⟩
  | tup hs r => exact ⟨_, .inr (.inl ⟨_, hs, by rw [r.isEmpty]⟩), w⟩
  | lst hs r => exact ⟨_, .inl ⟨_, hs.seq, by rw [r.isEmpty]⟩, w⟩
  | ref a =>
    obtain ⟨ds, e, w⟩ := w
    obtain ⟨vs, e1, r⟩ := hm a _ e
    exact ⟨_, .inl ⟨_, SqL.of e1, by rw [r.isEmpty]⟩, w⟩
  | ty n => exact w.elim
  | fn j => exact w.elim
  | dic hs hl r => exact w.elim
/-! ### items, slices -/
def wIdx (x y : D) (M : Mem) (Q : QD) : Prop := match y with
  | .int i => match x with
    | .str s => opt (atI s.cps.toList i) fun c => Q (.str ⟨#[c]⟩) M
    | x => opt (sqM M x) fun ds => opt (atI ds i) fun d => Q d M
  | _ => False
theorem DenL.atI {T : Tx} {H : Hp} {vs : List V} {ds : List D} {i : Int} {d : D} (r : DenL T H vs ds) (e : L2.atI ds i = some d) : ∃ v, L2.atI vs i = some v ∧ Den T H v d := by
  unfold L2.atI at e ⊢
  rw [r.length]
  cases q : ixN ds.length i with
  | none => rw [q] at e; cases e
  | some j =>
    rw [q] at e
    exact r.get e
theorem sgn_len (c : Nat) : (⟨#[c]⟩ : Str).length ≤ sizeLine := by
  rw [sizeLine_eq]
  show 1 ≤ 16777216
  decide
theorem ix_D {X : Cx} {T : Tx} (hT : X.K = T.K) : IxR X (rD T wIdx) := by
  have key : ∀ {H : Hp} {x y : V} {Q : VK}, rD T wIdx x y H Q → rIx X.K x y H Q := by
    rintro H x y Q ⟨dx, dy, M, QQ, hx, hy, hm, hw, kk⟩
    have fin : ∀ {w : V} {d : D}, Den T H w d → QQ d M → Q w H := fun hd q => kk _ _ _ _ (Stb.refl _) hm hd q
    cases hy with
    | int i =>
      by_cases z : ∃ b, dx = .str b
      · obtain ⟨b, rfl⟩ := z
        cases hx with
        | str _ hs =>
          obtain ⟨c, q, hw'⟩ := ofOpt hw
          exact .inr (.inr ⟨b, i, c, rfl, rfl, hs, q, fin (.str _ (sgn_len c)) hw'⟩)
      · have hw' : opt (sqM M dx) fun ds => opt (L2.atI ds i) fun d => QQ d M := by cases dx <;> first | exact absurd ⟨_, rfl⟩ z | exact hw
        obtain ⟨ds, q, hw'⟩ := ofOpt hw'
        obtain ⟨d, q2, hw2⟩ := ofOpt hw'
        obtain ⟨a, vs, rfl, hq, r⟩ := sqM_ok hm hx q
        obtain ⟨w, e1, e2⟩ := r.atI q2
        rw [← hT] at hq
        rcases hq with hq | hq
        · exact .inl ⟨a, vs, i, w, rfl, rfl, hq, e1, fin e2 hw2⟩
        · exact .inr (.inl ⟨a, vs, i, w, rfl, rfl, hq, e1, fin e2 hw2⟩)
    | _ => exact (show False from hw).elim
  intro value slice pins s σ H x y v u Q I rx ry q hs
  exact ix_seq value slice pins s σ H x y v u Q I rx ry (key q) hs
def cutD (xs : List D) (lo hi : Option Int) : List D := (xs.drop (HT.sIx xs.length 0 lo)).take (HT.sIx xs.length xs.length hi - HT.sIx xs.length 0 lo)
def wSlc (x : D) (lo hi : Option Int) (M : Mem) (Q : QD) : Prop := match x with
  | .str s => Q (.str (cutS s lo hi)) M
  | .tup xs => Q (.tup (cutD xs lo hi)) M
  | x => opt (lsM M x) fun ds => Q (.lst (cutD ds lo hi)) M
theorem DenL.cut {T : Tx} {H : Hp} {vs : List V} {ds : List D} (r : DenL T H vs ds) (lo hi : Option Int) : DenL T H (cutV vs lo hi) (cutD ds lo hi) := by
  unfold cutV cutD
  rw [r.length]
  exact (r.drop _).take _
def rSD (T : Tx) : V → Option Int → Option Int → Hp → VK → Prop := fun x lo hi H k => ∃ dx M Q, Den T H x dx ∧ MemOk T H M ∧ wSlc dx lo hi M Q ∧ ∀ v H' d M', Stb H H' → MemOk T H' M' → Den T H' v d → Q d M' → k v H'
theorem _root_.L2.SlR.lock {X : Cx} {r : V → Option Int → Option Int → Hp → VK → Prop} (h : SlR X r) : SlR X (fun x lo hi H Q => r x lo hi H (lockQ Q)) := fun pins s σ H x v vl vu lo hi sl Q I rx hs pl pu q => by
  obtain ⟨T, id, h1, h2, h3⟩ := h pins s σ H x v vl vu lo hi sl _ I rx hs pl pu q
  exact ⟨T, id, h1, h2, thn h3 fun _ _ z => EP.lock z⟩
theorem sl_D {X : Cx} {T : Tx} (hT : X.K = T.K) : SlR X (rSD T) := by
  have key : ∀ {H : Hp} {x : V} {lo hi : Option Int} {Q : VK}, rSD T x lo hi H Q → rSlS x lo hi H Q ∨ rSlA X.K x lo hi H Q ∨ rSlL X.K x lo hi H (lockQ Q) := by
    rintro H x lo hi Q ⟨dx, M, QQ, hx, hm, hw, kk⟩
    have fin : ∀ {w : V} {d : D}, Den T H w d → QQ d M → Q w H := fun hd q => kk _ _ _ _ (Stb.refl _) hm hd q
    by_cases z : ∃ b, dx = .str b
    · obtain ⟨b, rfl⟩ := z
      cases hx with
      | str _ hs => exact .inl ⟨b, rfl, hs, fin (.str _ (Nat.le_trans (cutS_length _ _ _) hs)) hw⟩
    · by_cases z2 : ∃ b, dx = .tup b
      · obtain ⟨ds, rfl⟩ := z2
        cases hx with
        | @tup a vs _ hs r =>
          refine .inr (.inl ⟨a, vs, rfl, by rw [hT]; exact hs, fun w => ?_, fun w p n => ?_⟩)
          · have e : cutD ds lo hi = ds := by
              unfold cutD
              rw [← r.length, w.1, w.2]
              rw [r.length]
              simp
            exact fin (.tup hs (by rw [e]; exact r)) hw
          · exact kk _ _ _ _ (Stb.new n) (hm.new n) (.tup (.inl (.inl upd_same)) ((r.cut lo hi).stb (Stb.new n))) hw
      · have hw' : opt (lsM M dx) fun ds => QQ (.lst (cutD ds lo hi)) M := by cases dx <;> first | exact absurd ⟨_, rfl⟩ z | exact absurd ⟨_, rfl⟩ z2 | exact hw
        obtain ⟨ds, q, hw'⟩ := ofOpt hw'
        obtain ⟨a, vs, rfl, hq, r⟩ := lsM_ok hm hx q
        refine .inr (.inr ⟨a, vs, rfl, by rw [hT]; exact hq, fun p n => ?_⟩)
        exact lock_new n hm (r.cut lo hi) fun v H' s1 m1 d1 => kk _ _ _ _ s1 m1 d1 hw'
  intro pins s σ H x v vl vu lo hi sl Q I rx hs pl pu q
  rcases key q with q | q | q
  · exact sl_str pins s σ H x v vl vu lo hi sl Q I rx hs pl pu q
  · exact sl_tupA pins s σ H x v vl vu lo hi sl Q I rx hs pl pu q
  · exact SlR.lock sl_list pins s σ H x v vl vu lo hi sl Q I rx hs pl pu q
end DL
namespace DL
open PySem PySem.Spec PyProof.Rows L2
/-! ### built-ins by their names -/
inductive Bi where
  | len | abs | int | isinst | list | tuple | max | min | sum | all | any | bool | ord
  deriving DecidableEq
def Bi.nm : Bi → Str
  | .len => "len" | .abs => "abs" | .int => "int" | .isinst => "isinstance" | .list => "list" | .tuple => "tuple" | .max => "max" | .min => "min" | .sum => "sum" | .all => "all" | .any => "any" | .bool => "bool" | .ord => "ord"
def Bi.ofName (x : Str) : Option Bi := [Bi.len, .abs, .int, .isinst, .list, .tuple, .max, .min, .sum, .all, .any, .bool, .ord].find? fun b => decide (b.nm = x)
/-- a built-in function, or a built-in type -/
def Bi.val : Bi → Value
  | .len => .builtin "len" | .abs => .builtin "abs" | .int => .type "int" | .isinst => .builtin "isinstance" | .list => .type "list" | .tuple => .type "tuple" | .max => .builtin "max" | .min => .builtin "min"
  | .sum => .builtin "sum" | .all => .builtin "all" | .any => .builtin "any" | .bool => .type "bool" | .ord => .builtin "ord"
theorem Bi.boot (b : Bi) : bootBuiltins b.nm = some b.val := by cases b <;> decide +kernel
theorem Bi.ofName_ok {x : Str} {b : Bi} (h : Bi.ofName x = some b) : x = b.nm := by
  have := List.find?_some h
  exact (of_decide_eq_true this).symm
/-- the name of a value's type -/
def tyM (M : Mem) (d : D) : Option String := match d with
  | .non => some "NoneType"
  | .bl _ => some "bool"
  | .int _ => some "int"
  | .str _ => some "str"
  | .tup _ => some "tuple"
  | .lst _ => some "list"
  | .dic _ _ => some "dict"
  | .ref a => match M a with
    | some (.lst _) => some "list"
    | _ => none
  | _ => none
theorem tyM_ok {T : Tx} {H : Hp} {M : Mem} {v : V} {d : D} {t : String} (hm : MemOk T H M) (h : Den T H v d) (e : tyM M d = some t) : TyX T.K H v (.type t) := by
  cases h with
  | non => cases e; exact .base .non
  | bl b => cases e; exact .base (.bl b)
  | int i => cases e; exact .base (.int i)
  | str s _ => cases e; exact .base (.str s)
  | tup hs r =>
    cases e
    rcases hs with (h | ⟨o, h⟩) | ⟨o, its, n, hk, hc, _⟩
    · exact .base (.tup h)
    · exact .fTuple h
    · exact .kTuple hk hc
  | lst hs r =>
    cases e
    rcases hs with ⟨o, h⟩ | ⟨o, its, n, hk, hc, _⟩
    · exact .base (.frz h)
    · exact .kList hk hc
  | dic hs hl r =>
    cases e
    obtain ⟨o, h⟩ := hs
    exact .fDict h
  | ref a =>
    have e' : (match M a with
      | some (.lst _) => some "list"
      | _ => none) = some t := e
    cases q : M a with
    | none => rw [q] at e'; cases e'
    | some o =>
      rw [q] at e'
      cases o with
      | lst ds =>
        cases e'
        obtain ⟨vs, h1, _⟩ := hm a _ q
        exact .base (.lst h1)
      | ins c fs => cases e'
  | ty n => cases e
  | fn j => cases e
def intsD : List D → Option (List Int)
  | [] => some []
  | .int i :: r => (intsD r).map (i :: ·)
  | _ :: _ => none
def blsD : List D → Option (List Bool)
  | [] => some []
  | .bl i :: r => (blsD r).map (i :: ·)
  | _ :: _ => none
theorem intsD_ok {T : Tx} {H : Hp} : ∀ {vs : List V} {ds : List D} {ns : List Int}, DenL T H vs ds → intsD ds = some ns → vs = ns.map V.int
  | _, _, _, .nil, e => by cases e; rfl
  | _, .int i :: r, ns, .cons h t, e => by
    have e' : (intsD r).map (i :: ·) = some ns := e
    cases q : intsD r with
    | none => rw [q] at e'; cases e'
    | some ms =>
      rw [q] at e'
      cases e'
      cases h
      rw [intsD_ok t q] <;> rfl
  | _, .non :: r, _, .cons h t, e => by cases e
  | _, .bl _ :: r, _, .cons h t, e => by cases e
  | _, .str _ :: r, _, .cons h t, e => by cases e
  | _, .tup _ :: r, _, .cons h t, e => by cases e
  | _, .lst _ :: r, _, .cons h t, e => by cases e
  | _, .dic _ _ :: r, _, .cons h t, e => by cases e
  | _, .ref _ :: r, _, .cons h t, e => by cases e
  | _, .ty _ :: r, _, .cons h t, e => by cases e
  | _, .fn _ :: r, _, .cons h t, e => by cases e
theorem blsD_ok {T : Tx} {H : Hp} : ∀ {vs : List V} {ds : List D} {ns : List Bool}, DenL T H vs ds → blsD ds = some ns → vs = ns.map V.bl
  | _, _, _, .nil, e => by cases e; rfl
  | _, .bl i :: r, ns, .cons h t, e => by
    have e' : (blsD r).map (i :: ·) = some ns := e
    cases q : blsD r with
    | none => rw [q] at e'; cases e'
    | some ms =>
      rw [q] at e'
      cases e'
      cases h
      rw [blsD_ok t q] <;> rfl
  | _, .non :: r, _, .cons h t, e => by cases e
  | _, .int _ :: r, _, .cons h t, e => by cases e
  | _, .str _ :: r, _, .cons h t, e => by cases e
  | _, .tup _ :: r, _, .cons h t, e => by cases e
  | _, .lst _ :: r, _, .cons h t, e => by cases e
  | _, .dic _ _ :: r, _, .cons h t, e => by cases e
  | _, .ref _ :: r, _, .cons h t, e => by cases e
  | _, .ty _ :: r, _, .cons h t, e => by cases e
  | _, .fn _ :: r, _, .cons h t, e => by cases e
def wBlt (b : Bi) (l : List D) (M : Mem) (Q : QD) : Prop := match b, l with
  | .len, [.str s] => Q (.int s.length) M
  | .len, [x] => opt (sqM M x) fun ds => Q (.int ds.length) M
  | .abs, [.int i] => Q (.int (if i < 0 then -i else i)) M
  | .int, [.int i] => Q (.int i) M
  | .int, [.bl k] => Q (.int (if k then 1 else 0)) M
  | .isinst, [x, .ty n] => opt (tyM M x) fun t => opt (kitB t n) fun k => Q (.bl k) M
  | .list, [x] => opt (sqM M x) fun ds => Q (.lst ds) M
  | .tuple, [x] => opt (sqM M x) fun ds => Q (.tup ds) M
  | .max, [.int i, .int j] => Q (.int (if j > i then j else i)) M
  | .min, [.int i, .int j] => Q (.int (if j < i then j else i)) M
  | .sum, [x] => opt (lsM M x) fun ds => opt (intsD ds) fun ns => Q (.int ns.sum) M
  | .all, [x] => opt (lsM M x) fun ds => opt (blsD ds) fun ns => Q (.bl (ns.all id)) M
  | .any, [x] => opt (lsM M x) fun ds => opt (blsD ds) fun ns => Q (.bl (ns.any id)) M
  | .bool, [.int i] => Q (.bl (i != 0)) M
  | .bool, [.bl k] => Q (.bl k) M
  | .ord, [.str s] => s.length = 1 ∧ Q (.int (s.cps.getD 0 0 : Nat)) M
  | _, _ => False
def rLD (T : Tx) (b : List D → Mem → QD → Prop) : List V → Hp → VK → Prop := fun xs H k => ∃ ds M Q, DenL T H xs ds ∧ MemOk T H M ∧ b ds M Q ∧ ∀ v H' d M', Stb H H' → MemOk T H' M' → Den T H' v d → Q d M' → k v H'
section
variable {X : Cx} {T : Tx}
theorem DenL.one {H : Hp} {xs : List V} {d : D} (r : DenL T H xs [d]) : ∃ v, xs = [v] ∧ Den T H v d := by
  cases r with
  | cons h t => cases t; exact ⟨_, rfl, h⟩
theorem DenL.two {H : Hp} {xs : List V} {d e : D} (r : DenL T H xs [d, e]) : ∃ v u, xs = [v, u] ∧ Den T H v d ∧ Den T H u e := by
  cases r with
  | cons h t => cases t with
    | cons h2 t => cases t; exact ⟨_, _, rfl, h, h2⟩
theorem call_bi (hT : X.K = T.K) (hc : X.calm = true) (b : Bi) : CallR X b.val (rLD T (wBlt b)) := by
  rintro pins s σ H xs us Q I rv ⟨ds, M, QQ, rd, hm, hw, kk⟩
  have fin : ∀ {w : V} {d : D}, Den T H w d → QQ d M → Q w H := fun hd q => kk _ _ _ _ (Stb.refl _) hm hd q
  have sq : ∀ {x : D} {v : V} {ds : List D}, Den T H v x → sqM M x = some ds → ∃ a vs, v = .ref a ∧ (SqL X.K H a vs ∨ SqT X.K H a vs) ∧ DenL T H vs ds := fun hd e => by rw [hT]; exact sqM_ok hm hd e
  have ls : ∀ {x : D} {v : V} {ds : List D}, Den T H v x → lsM M x = some ds → ∃ a vs, v = .ref a ∧ SqL X.K H a vs ∧ DenL T H vs ds := fun hd e => by rw [hT]; exact lsM_ok hm hd e
  cases b with
  | len =>
    rcases ds with _ | ⟨d, _ | ⟨e, r⟩⟩
    · exact (show False from hw).elim
    · obtain ⟨v, rfl, hd⟩ := rd.one
      by_cases z : ∃ b, d = .str b
      · obtain ⟨b, rfl⟩ := z
        cases hd with
        | str _ hs => exact call_len pins s σ H _ us Q I rv ⟨_, _, rfl, ⟨hs, rfl⟩, fin (.int _) hw⟩
      · have hw' : opt (sqM M d) fun ds => QQ (.int ds.length) M := by cases d <;> first | exact absurd ⟨_, rfl⟩ z | exact hw
        obtain ⟨es, q, hq⟩ := ofOpt hw'
        obtain ⟨a, vs, rfl, h1, r⟩ := sq hd q
        refine call_len pins s σ H _ us Q I rv ⟨.ref a, vs.length, rfl, ?_, ?_⟩
        · rcases h1 with h1 | h1
          · exact .inl ⟨vs, h1, rfl⟩
          · exact .inr ⟨vs, h1, rfl⟩
        · rw [r.length]
          exact fin (.int _) hq
    · cases d <;> exact (show False from hw).elim
  | abs =>
    rcases ds with _ | ⟨d, _ | ⟨e, r⟩⟩
    · exact (show False from hw).elim
    · obtain ⟨v, rfl, hd⟩ := rd.one
      cases hd with
      | int i => exact call_abs pins s σ H _ us Q I rv ⟨i, rfl, fin (.int _) hw⟩
      | _ => exact (show False from hw).elim
    · cases d <;> exact (show False from hw).elim
  | int =>
    rcases ds with _ | ⟨d, _ | ⟨e, r⟩⟩
    · exact (show False from hw).elim
    · obtain ⟨v, rfl, hd⟩ := rd.one
      cases hd with
      | int i => exact call_int1 pins s σ H _ us Q I rv (.inl ⟨i, rfl, fin (.int _) hw⟩)
      | bl i => exact call_int1 pins s σ H _ us Q I rv (.inr ⟨i, rfl, fin (.int _) hw⟩)
      | _ => exact (show False from hw).elim
    · cases d <;> exact (show False from hw).elim
  | bool =>
    rcases ds with _ | ⟨d, _ | ⟨e, r⟩⟩
    · exact (show False from hw).elim
    · obtain ⟨v, rfl, hd⟩ := rd.one
      cases hd with
      | int i => exact call_bool1 pins s σ H _ us Q I rv (.inl ⟨i, rfl, fin (.bl _) hw⟩)
      | bl i => exact call_bool1 pins s σ H _ us Q I rv (.inr ⟨i, rfl, fin (.bl _) hw⟩)
      | _ => exact (show False from hw).elim
    · cases d <;> exact (show False from hw).elim
  | ord =>
    rcases ds with _ | ⟨d, _ | ⟨e, r⟩⟩
    · exact (show False from hw).elim
    · obtain ⟨v, rfl, hd⟩ := rd.one
      cases hd with
      | str i hs => exact call_ord pins s σ H _ us Q I rv ⟨i, rfl, hw.1, fin (.int _) hw.2⟩
      | _ => exact (show False from hw).elim
    · cases d <;> exact (show False from hw).elim
  | isinst =>
    rcases ds with _ | ⟨d, _ | ⟨e, _ | ⟨f, r⟩⟩⟩
    · exact (show False from hw).elim
    · cases d <;> exact (show False from hw).elim
    · obtain ⟨v, u, rfl, hd, he⟩ := rd.two
      cases he with
      | ty n =>
        obtain ⟨t, q1, hw⟩ := ofOpt (show opt (tyM M d) fun t => opt (kitB t n) fun k => QQ (.bl k) M from by cases d <;> exact hw)
        obtain ⟨k, q2, hw⟩ := ofOpt hw
        exact call_isi pins s σ H _ us Q I rv ⟨v, .ty n, .type t, .type n, k, rfl, .ty n, by rw [hT]; exact tyM_ok hm hd q1, kit_ty q2, fin (.bl _) hw⟩
      | _ => cases d <;> exact (show False from hw).elim
    · cases d <;> cases e <;> exact (show False from hw).elim
  | list =>
    rcases ds with _ | ⟨d, _ | ⟨e, r⟩⟩
    · exact (show False from hw).elim
    · obtain ⟨v, rfl, hd⟩ := rd.one
      obtain ⟨es, q, hq⟩ := ofOpt (show opt (sqM M d) fun ds => QQ (.lst ds) M from by cases d <;> exact hw)
      obtain ⟨a, vs, rfl, h1, r⟩ := sq hd q
      refine CallR.lock call_list_of pins s σ H _ us Q I rv ⟨a, vs, rfl, h1, fun p n => ?_⟩
      exact lock_new n hm r fun v H' s1 m1 d1 => kk _ _ _ _ s1 m1 d1 hq
    · cases d <;> exact (show False from hw).elim
  | tuple =>
    rcases ds with _ | ⟨d, _ | ⟨e, r⟩⟩
    · exact (show False from hw).elim
    · obtain ⟨v, rfl, hd⟩ := rd.one
      obtain ⟨es, q, hq⟩ := ofOpt (show opt (sqM M d) fun ds => QQ (.tup ds) M from by cases d <;> exact hw)
      obtain ⟨a, vs, rfl, h1, r⟩ := sq hd q
      refine call_tuple_of pins s σ H _ us Q I rv ⟨a, vs, rfl, ?_⟩
      rcases h1 with h1 | h1
      · exact .inl ⟨h1, fun p n => kk _ _ _ _ (Stb.new n) (hm.new n) (.tup (.inl (.inl upd_same)) (r.stb (Stb.new n))) hq⟩
      · exact .inr ⟨h1, fin (.tup (by rw [← hT]; exact h1) r) hq⟩
    · cases d <;> exact (show False from hw).elim
  | max =>
    rcases ds with _ | ⟨d, _ | ⟨e, _ | ⟨f, r⟩⟩⟩
    · exact (show False from hw).elim
    · cases d <;> exact (show False from hw).elim
    · obtain ⟨v, u, rfl, hd, he⟩ := rd.two
      cases hd with
      | int i => cases he with
        | int j => exact call_max2 hc pins s σ H _ us Q I rv ⟨i, j, rfl, fin (.int _) hw⟩
        | _ => exact (show False from hw).elim
      | _ => exact (show False from hw).elim
    · cases d <;> cases e <;> exact (show False from hw).elim
  | min =>
    rcases ds with _ | ⟨d, _ | ⟨e, _ | ⟨f, r⟩⟩⟩
    · exact (show False from hw).elim
    · cases d <;> exact (show False from hw).elim
    · obtain ⟨v, u, rfl, hd, he⟩ := rd.two
      cases hd with
      | int i => cases he with
        | int j => exact call_min2 hc pins s σ H _ us Q I rv ⟨i, j, rfl, fin (.int _) hw⟩
        | _ => exact (show False from hw).elim
      | _ => exact (show False from hw).elim
    · cases d <;> cases e <;> exact (show False from hw).elim
  | sum =>
    rcases ds with _ | ⟨d, _ | ⟨e, r⟩⟩
    · exact (show False from hw).elim
    · obtain ⟨v, rfl, hd⟩ := rd.one
      obtain ⟨es, q, hq⟩ := ofOpt (show opt (lsM M d) fun ds => opt (intsD ds) fun ns => QQ (.int ns.sum) M from by cases d <;> exact hw)
      obtain ⟨ns, q2, hq⟩ := ofOpt hq
      obtain ⟨a, vs, rfl, h1, r⟩ := ls hd q
      have e := intsD_ok r q2
      subst e
      exact cr_sum hc pins s σ H _ us Q I rv ⟨a, ns, rfl, h1, fin (.int _) hq⟩
    · cases d <;> exact (show False from hw).elim
  | all =>
    rcases ds with _ | ⟨d, _ | ⟨e, r⟩⟩
    · exact (show False from hw).elim
    · obtain ⟨v, rfl, hd⟩ := rd.one
      obtain ⟨es, q, hq⟩ := ofOpt (show opt (lsM M d) fun ds => opt (blsD ds) fun ns => QQ (.bl (ns.all id)) M from by cases d <;> exact hw)
      obtain ⟨ns, q2, hq⟩ := ofOpt hq
      obtain ⟨a, vs, rfl, h1, r⟩ := ls hd q
      have e := blsD_ok r q2
      subst e
      exact cr_all hc pins s σ H _ us Q I rv ⟨a, ns, rfl, h1, fin (.bl _) hq⟩
    · cases d <;> exact (show False from hw).elim
  | any =>
    rcases ds with _ | ⟨d, _ | ⟨e, r⟩⟩
    · exact (show False from hw).elim
    · obtain ⟨v, rfl, hd⟩ := rd.one
      obtain ⟨es, q, hq⟩ := ofOpt (show opt (lsM M d) fun ds => opt (blsD ds) fun ns => QQ (.bl (ns.any id)) M from by cases d <;> exact hw)
      obtain ⟨ns, q2, hq⟩ := ofOpt hq
      obtain ⟨a, vs, rfl, h1, r⟩ := ls hd q
      have e := blsD_ok r q2
      subst e
      exact cr_any hc pins s σ H _ us Q I rv ⟨a, ns, rfl, h1, fin (.bl _) hq⟩
    · cases d <;> exact (show False from hw).elim
end
@[simp] theorem kit_t1 : kitB "int" "int" = some true := by decide +kernel
@[simp] theorem kit_t2 : kitB "bool" "int" = some true := by decide +kernel
@[simp] theorem kit_t3 : kitB "str" "int" = some false := by decide +kernel
@[simp] theorem kit_t4 : kitB "NoneType" "int" = some false := by decide +kernel
@[simp] theorem kit_t5 : kitB "tuple" "int" = some false := by decide +kernel
@[simp] theorem kit_t6 : kitB "list" "int" = some false := by decide +kernel
@[simp] theorem kit_b1 : kitB "int" "bool" = some false := by decide +kernel
@[simp] theorem kit_b2 : kitB "bool" "bool" = some true := by decide +kernel
@[simp] theorem kit_b3 : kitB "str" "bool" = some false := by decide +kernel
@[simp] theorem kit_b4 : kitB "NoneType" "bool" = some false := by decide +kernel
@[simp] theorem kit_b5 : kitB "tuple" "bool" = some false := by decide +kernel
@[simp] theorem kit_b6 : kitB "list" "bool" = some false := by decide +kernel
@[simp] theorem kit_s1 : kitB "int" "str" = some false := by decide +kernel
@[simp] theorem kit_s2 : kitB "bool" "str" = some false := by decide +kernel
@[simp] theorem kit_s3 : kitB "str" "str" = some true := by decide +kernel
@[simp] theorem kit_s4 : kitB "NoneType" "str" = some false := by decide +kernel
@[simp] theorem kit_s5 : kitB "tuple" "str" = some false := by decide +kernel
@[simp] theorem kit_s6 : kitB "list" "str" = some false := by decide +kernel
@[simp] theorem kit_u1 : kitB "int" "tuple" = some false := by decide +kernel
@[simp] theorem kit_u2 : kitB "bool" "tuple" = some false := by decide +kernel
@[simp] theorem kit_u3 : kitB "str" "tuple" = some false := by decide +kernel
@[simp] theorem kit_u4 : kitB "NoneType" "tuple" = some false := by decide +kernel
@[simp] theorem kit_u5 : kitB "tuple" "tuple" = some true := by decide +kernel
@[simp] theorem kit_u6 : kitB "list" "tuple" = some false := by decide +kernel
@[simp] theorem kit_l1 : kitB "int" "list" = some false := by decide +kernel
@[simp] theorem kit_l2 : kitB "bool" "list" = some false := by decide +kernel
@[simp] theorem kit_l3 : kitB "str" "list" = some false := by decide +kernel
@[simp] theorem kit_l4 : kitB "NoneType" "list" = some false := by decide +kernel
@[simp] theorem kit_l5 : kitB "tuple" "list" = some false := by decide +kernel
@[simp] theorem kit_l6 : kitB "list" "list" = some true := by decide +kernel
end DL
namespace DL
open PySem PySem.Spec PyProof.Rows L2
/-! ### shapes of expressions that the rules ask for -/
def notStar : Expr → Bool
  | .Starred _ _ => false
  | _ => true
def notComp : Expr → Bool
  | .ListComp .. => false
  | .SetComp .. => false
  | .DictComp .. => false
  | _ => true
def notSet : Expr → Bool
  | .Set .. => false
  | _ => true
def notCall : Expr → Bool
  | .Call .. => false
  | _ => true
theorem star_ok {e : Expr} {es : List Expr} {env : Env} (h : notStar e = true) : starEach (e :: es) env = (false, eval e env) :: starEach es env := by
  cases e <;> first | rfl | cases h
def noStars (es : List Expr) : Bool := es.all notStar
theorem stars_ok {env : Env} {pos : Pos} : ∀ {es : List Expr}, noStars es = true → (backTo pos (starEach es env)).any (·.1) = false
  | [], _ => rfl
  | e :: es, h => by
    have h2 : (notStar e && noStars es) = true := h
    rw [Bool.and_eq_true] at h2
    rw [star_ok h2.1]
    show (false || (backTo pos (starEach es env)).any (·.1)) = false
    rw [stars_ok h2.2] <;> rfl
theorem marks_ok {e : Expr} {op : CmpOp} (h : notSet e = true) : behindInMarks op e = false := by
  cases e <;> first | rfl | cases h
theorem base_ok {e : Expr} {f : Str} {env : Env} (h : notCall e = true) : attributeBase e f env (eval e env) = eval e env := by
  cases e <;> first | rfl | cases h
theorem swaps_ok {e : Expr} {t : Option Expr} {l : Nat} {env : Env} (h : notComp e = true) : swapsWith e t l env = pure false := by
  cases e <;> first | rfl | cases h
theorem fold_ok {e : Expr} {env : Env} (h : notSet e = true) : ∀ x, foldedSetIterable e env x = pure x := by
  intro x
  cases e <;> first | rfl | cases h
def notSlice : Expr → Bool
  | .Slice .. => false
  | _ => true
theorem plainIx {e : Expr} (h : notSlice e = true) : PlainIx e := by
  intro o i
  cases e <;> first | rfl | cases h
/-! ### targets -/
mutual
inductive Tg where
  | nm (i : Nat)
  | tup (ts : Tgs)
inductive Tgs where
  | nil
  | cons (t : Tg) (ts : Tgs)
end
mutual
def Tg.slots : Tg → List Nat
  | .nm i => [i]
  | .tup ts => ts.slots
def Tgs.slots : Tgs → List Nat
  | .nil => []
  | .cons t ts => t.slots ++ ts.slots
end
def Tgs.len : Tgs → Nat
  | .nil => 0
  | .cons _ ts => ts.len + 1
mutual
/-- what a target does to the slots; M: for a list that may change -/
def wTg : Tg → D → Mem → Ev → (Ev → Prop) → Prop
  | .nm i, d, _, δ, k => k (δ.set i (some d))
  | .tup ts, d, M, δ, k => opt (sqM M d) fun ds => ds.length = ts.len ∧ wTgs ts ds M δ k
def wTgs : Tgs → List D → Mem → Ev → (Ev → Prop) → Prop
  | .nil, ds, _, δ, k => match ds with
    | [] => k δ
    | _ :: _ => False
  | .cons t ts, ds, M, δ, k => match ds with
    | [] => False
    | d :: r => wTg t d M δ fun δ1 => wTgs ts r M δ1 k
end
/-- slots that a target has not are as they were -/
def SameBut (is : List Nat) (σ σ' : L2.St) : Prop := ∀ ws : List Nat, (∀ i ∈ is, i ∈ ws) → wipe σ' ws = wipe σ ws
theorem wipe_get {σ : L2.St} {j : Nat} : ∀ {ws : List Nat}, (wipe σ ws)[j]? = if j ∈ ws then (if j < σ.length then some none else none) else σ[j]?
  | [] => by simp [wipe]
  | v :: vs => by
    have ih := wipe_get (σ := σ) (j := j) (ws := vs)
    show ((wipe σ vs).set v none)[j]? = _
    by_cases e : v = j
    · subst e
      by_cases hv : v < σ.length
      · rw [List.getElem?_set_self (by rw [wipe_length]; exact hv)]
        simp [hv]
      · rw [List.getElem?_eq_none (by rw [List.length_set, wipe_length]; omega)]
        simp [hv]
    · rw [List.getElem?_set_ne e, ih]
      have : (j ∈ v :: vs) ↔ j ∈ vs := by
        rw [List.mem_cons]
        exact ⟨fun h => h.elim (fun z => absurd z.symm e) _root_.id, .inr⟩
      simp only [this]
theorem SameBut.refl (is : List Nat) (σ : L2.St) : SameBut is σ σ := fun _ _ => rfl
theorem SameBut.set (i : Nat) (v : Option V) (σ : L2.St) : SameBut [i] σ (σ.set i v) := fun ws h => by
  refine List.ext_getElem? fun j => ?_
  rw [wipe_get, wipe_get, List.length_set]
  by_cases e : j ∈ ws
  · rw [if_pos e, if_pos e]
  · rw [if_neg e, if_neg e, List.getElem?_set_ne]
    rintro rfl
    exact e (h _ (by simp))
theorem SameBut.trans {is js : List Nat} {σ σ1 σ2 : L2.St} (a : SameBut is σ σ1) (b : SameBut js σ1 σ2) : SameBut (is ++ js) σ σ2 := fun ws h =>
  (b ws fun i hi => h i (List.mem_append_right _ hi)).trans (a ws fun i hi => h i (List.mem_append_left _ hi))
def liftG (T : Tx) (H0 : Hp) (t : Tg) : TG := fun v σ H k => ∃ d δ M Q, Rl T H0 σ H δ M ∧ Den T H v d ∧ wTg t d M δ Q ∧ ∀ σ' δ', Rl T H0 σ' H δ' M → SameBut t.slots σ σ' → Q δ' → k σ' H
def liftGs (T : Tx) (H0 : Hp) (t : Tgs) : TGs := fun vs σ H k => ∃ ds δ M Q, Rl T H0 σ H δ M ∧ DenL T H vs ds ∧ wTgs t ds M δ Q ∧ ∀ σ' δ', Rl T H0 σ' H δ' M → SameBut t.slots σ σ' → Q δ' → k σ' H
section
variable {X : Cx} {T : Tx} {H0 : Hp}
theorem _root_.L2.PG.weak {e : Expr} {t t' : TG} (h : PG X e t) (w : ∀ v σ H k, t' v σ H k → t v σ H k) : PG X e t' := ⟨fun p s σ H v u k I r q => h.run p s σ H v u k I r (w v σ H k q)⟩
theorem _root_.L2.PG.or {e : Expr} {t t' : TG} (h : PG X e t) (h' : PG X e t') : PG X e (fun v σ H k => t v σ H k ∨ t' v σ H k) := ⟨fun p s σ H v u k I r q => q.elim (h.run p s σ H v u k I r) (h'.run p s σ H v u k I r)⟩
theorem _root_.L2.PGs.weak {e : List Expr} {t t' : TGs} (h : PGs X e t) (w : ∀ v σ H k, t' v σ H k → t v σ H k) : PGs X e t' := ⟨fun p s σ H v u k I r q => h.run p s σ H v u k I r (w v σ H k q)⟩
theorem tg_name {i : Nat} {x : Str} {pos : Pos} (hN : X.N.Nodup) (hi : X.N[i]? = some x) (hx : Loc X.env.scope x) (hf : X.fn x = true ∨ X.env.scope.names.lookup x = some .local) : PG X (.Name x pos) (liftG T H0 (.nm i)) :=
  (pg_name hN hi hx hf).weak fun v σ H k ⟨d, δ, M, Q, rl, hd, hw, kk⟩ => kk _ _ ⟨rl.base, rl.env.set hd i, rl.mem⟩ (SameBut.set i _ σ) hw
theorem tgs_nil : PGs X [] (liftGs T H0 .nil) := pgs_nil.weak fun vs σ H k ⟨ds, δ, M, Q, rl, hd, hw, kk⟩ => by
  cases ds with
  | nil => cases hd; exact ⟨rfl, kk _ _ rl (SameBut.refl _ _) hw⟩
  | cons d r => exact (show False from hw).elim
theorem tgs_cons {e : Expr} {es : List Expr} {t : Tg} {ts : Tgs} (h1 : PG X e (liftG T H0 t)) (h2 : PGs X es (liftGs T H0 ts)) (hs : (assignEach (e :: es) X.env).map (·.2) = assign e X.env :: (assignEach es X.env).map (·.2)) : PGs X (e :: es) (liftGs T H0 (.cons t ts)) :=
  (pgs_cons h1 h2 hs).weak fun vs σ H k ⟨ds, δ, M, Q, rl, hd, hw, kk⟩ => by
    cases ds with
    | nil => exact (show False from hw).elim
    | cons d r =>
      cases hd with
      | cons h r' => exact ⟨_, _, rfl, d, δ, M, _, rl, h, hw, fun σ1 δ1 rl1 s1 q1 => ⟨r, δ1, M, Q, rl1, r', q1, fun σ2 δ2 rl2 s2 q2 => kk _ _ rl2 (s1.trans s2) q2⟩⟩
theorem tg_tup {es : List Expr} {k : Nat} {pos : Pos} {ts : Tgs} (hT : X.K = T.K) (hc : X.calm = true) (h : PGs X es (liftGs T H0 ts)) (hn : (assignEach es X.env).length = ts.len) (hst : (assignEach es X.env).findIdx? (·.1) = none) : PG X (.Tuple es k pos) (liftG T H0 (.tup ts)) :=
  ((pg_tup (n := ts.len) hc h hn hst).or (pg_lst (n := ts.len) hc h hn hst)).weak fun v σ H kk ⟨d, δ, M, Q, rl, hd, hw, kf⟩ => by
    obtain ⟨ds, e, hl, hw⟩ := ofOpt (show opt (sqM M d) fun ds => ds.length = ts.len ∧ wTgs ts ds M δ Q from hw)
    obtain ⟨a, vs, rfl, hq, r⟩ := sqM_ok rl.mem hd e
    rw [← hT] at hq
    have fin : liftGs T H0 ts vs σ H kk := ⟨ds, δ, M, Q, rl, r, hw, kf⟩
    rcases hq with hq | hq
    · exact .inr ⟨a, vs, rfl, hq, by rw [r.length]; exact hl, fin⟩
    · exact .inl ⟨a, vs, rfl, hq, by rw [r.length]; exact hl, fin⟩
end
end DL
namespace DL
open PySem PySem.Spec PyProof.Rows L2
/-! ### the small language -/
mutual
inductive Ir where
  | var (i : Nat)
  | cst (d : D)
  | bin (op : Operator) (a b : Ir)
  | neg (a : Ir)
  | not (a : Ir)
  | and (a b : Ir)
  | or (a b : Ir)
  | cmp (op : CmpOp) (a b : Ir)
  | chn (op op' : CmpOp) (a b c : Ir)
  | ite (c a b : Ir)
  | tup (as : Irs)
  | lst (as : Irs)
  | mls (as : Irs)
  | idx (a b : Ir)
  | slc (a : Ir) (lo hi : Io)
  | call (j : Nat) (as : Irs)
  | calv (i : Nat) (as : Irs)
  | blt (b : Bi) (as : Irs)
  | app (a b : Ir)
  | bits (a : Ir)
  | lc (it : It) (t : Tg) (c e : Ir) (ws : List Nat)
inductive Irs where
  | nil
  | cons (a : Ir) (as : Irs)
inductive Io where
  | none
  | some (a : Ir)
inductive It where
  | rng1 (a : Ir)
  | rng2 (a b : Ir)
  | rng3 (a b c : Ir)
  | val (a : Ir)
end
def W0 : WD := fun _ _ _ _ => False
/-- what is walked -/
def itM (M : Mem) (d : D) : Option (List D) := match d with
  | .str s => some (s.cps.toList.map fun c => .str ⟨#[c]⟩)
  | d => sqM M d
/-- the walked list stands -/
def chk (d : D) (ds : List D) (M : Mem) : Prop := match d with
  | .ref a => M a = some (.lst ds)
  | _ => True
def rngD (lo c : Int) (n : Nat) : List D := (List.range n).map fun (i : Nat) => .int (lo + i * c)
def wNeg (x : D) (M : Mem) (Q : QD) : Prop := match x with
  | .int i => Q (.int (-i)) M
  | _ => False
def wBits (x : D) (M : Mem) (Q : QD) : Prop := match x with
  | .int i => Q (.int (Builtin.Int.intBits i : Nat)) M
  | _ => False
def wApp (x y : D) (M : Mem) (Q : QD) : Prop := match x with
  | .ref a => opt (M a) fun o => match o with
    | .lst ds => ds.length < sizeLine ∧ Q .non (M.put a (.lst (ds ++ [y])))
    | .ins _ _ => False
  | _ => False
def wChn (x : D) (f : Bool → Prop) : Prop := match x with
  | .bl k => f k
  | _ => False
def fnOf : D → Option Nat
  | .fn j => some j
  | _ => none
def small62 (n : Int) : Prop := -(2 ^ 62) ≤ n ∧ n < 2 ^ 62
def rg1 (x : D) (k : List D → Prop) : Prop := match x with
  | .int n => small62 n ∧ k (rngD 0 1 n.toNat)
  | _ => False
def rg2 (x y : D) (k : List D → Prop) : Prop := match x, y with
  | .int n, .int m => (small62 n ∧ small62 m) ∧ k (rngD n 1 (m - n).toNat)
  | _, _ => False
def rg3 (x y z : D) (k : List D → Prop) : Prop := match x, y, z with
  | .int n, .int m, .int c => ∃ t, RgC n m c t ∧ k (rngD n c t)
  | _, _, _ => False
/-- a comprehension's turns; the list so far stands at p -/
def lcGo (step : D → Mem → (Option D → Mem → Prop) → Prop) (ch : Mem → Prop) (p : Addr) (Q : List D → Mem → Prop) : List D → List D → Mem → Prop
  | [], acc, M => ch M ∧ M p = some (.lst acc) ∧ Q acc (M.del p)
  | d :: ds, acc, M => ch M ∧ step d M fun r M' => match r with
    | none => lcGo step ch p Q ds acc M'
    | some y => M' p = some (.lst acc) ∧ acc.length < sizeLine ∧ lcGo step ch p Q ds (acc ++ [y]) (M'.put p (.lst (acc ++ [y])))
mutual
def dE (Γ : List DSp) : Ir → WD → WpE
  | .var i, _, δ, M, Q => opt δ[i]? fun o => opt o fun d => Q d M
  | .cst d, _, _, M, Q => Q d M
  | .bin op a b, W, δ, M, Q => dE Γ a W δ M fun x M1 => dE Γ b W δ M1 fun y M2 => wBin op x y M2 Q
  | .neg a, W, δ, M, Q => dE Γ a W δ M fun x M1 => wNeg x M1 Q
  | .not a, W, δ, M, Q => dE Γ a W δ M fun x M1 => dTru x M1 fun k => Q (.bl (!k)) M1
  | .and a b, W, δ, M, Q => dE Γ a W δ M fun x M1 => dTru x M1 fun k => if k = true then dE Γ b W δ M1 Q else Q x M1
  | .or a b, W, δ, M, Q => dE Γ a W δ M fun x M1 => dTru x M1 fun k => if k = true then Q x M1 else dE Γ b W δ M1 Q
  | .cmp op a b, W, δ, M, Q => dE Γ a W δ M fun x M1 => dE Γ b W δ M1 fun y M2 => wCmp op x y M2 Q
  | .chn op op' a b c, W, δ, M, Q => dE Γ a W δ M fun x M1 => dE Γ b W δ M1 fun y M2 => wCmp op x y M2 fun z M3 => wChn z fun k => if k = true then dE Γ c W δ M3 fun u M4 => wCmp op' y u M4 Q else Q (.bl false) M3
  | .ite c a b, W, δ, M, Q => dT Γ c W δ M fun k M1 => if k = true then dE Γ a W δ M1 Q else dE Γ b W δ M1 Q
  | .tup as, W, δ, M, Q => dA Γ as W δ M fun ds M1 => ds.length ≤ 4096 ∧ Q (.tup ds) M1
  | .lst as, W, δ, M, Q => dA Γ as W δ M fun ds M1 => ds.length ≤ 4096 ∧ Q (.lst ds) M1
  | .mls as, W, δ, M, Q => dA Γ as W δ M fun ds M1 => ds.length ≤ 4096 ∧ ∀ p, M1 p = none → Q (.ref p) (M1.put p (.lst ds))
  | .idx a b, W, δ, M, Q => dE Γ a W δ M fun x M1 => dE Γ b W δ M1 fun y M2 => wIdx x y M2 Q
  | .slc a lo hi, W, δ, M, Q => dE Γ a W δ M fun x M1 => dO Γ lo W δ M1 fun l M2 => dO Γ hi W δ M2 fun u M3 => wSlc x l u M3 Q
  | .call j as, W, δ, M, Q => dA Γ as W δ M fun ds M1 => opt Γ[j]? fun φ => φ ds M1 Q fun x fs M' => W x fs δ M'
  | .calv i as, W, δ, M, Q => opt δ[i]? fun o => opt o fun f => opt (fnOf f) fun j => opt Γ[j]? fun φ => dA Γ as W δ M fun ds M1 => φ ds M1 Q fun x fs M' => W x fs δ M'
  | .blt b as, W, δ, M, Q => dA Γ as W δ M fun ds M1 => wBlt b ds M1 Q
  | .app a b, W, δ, M, Q => dE Γ a W δ M fun x M1 => opt (lsM M1 x) fun _ => dE Γ b W δ M1 fun y M2 => wApp x y M2 Q
  | .bits a, W, δ, M, Q => dE Γ a W δ M fun x M1 => wBits x M1 Q
  | .lc it t c e ws, W, δ, M, Q => dI Γ it W δ M fun ds ch M1 => ∀ p, M1 p = none → lcGo (fun d M k => wTg t d M (wipeD δ ws) fun δ1 => dT Γ c W0 δ1 M fun b M2 => if b = true then dE Γ e W0 δ1 M2 fun y M3 => k (some y) M3 else k none M2) ch p (fun es M3 => Q (.lst es) M3) ds [] (M1.put p (.lst []))
def dT (Γ : List DSp) : Ir → WD → WpT
  | .not a, W, δ, M, Q => dT Γ a W δ M fun k M1 => Q (!k) M1
  | .and a b, W, δ, M, Q => dT Γ a W δ M fun k M1 => if k = true then dT Γ b W δ M1 Q else Q false M1
  | .or a b, W, δ, M, Q => dT Γ a W δ M fun k M1 => if k = true then Q true M1 else dT Γ b W δ M1 Q
  | .cmp op a b, W, δ, M, Q => dE Γ a W δ M fun x M1 => dE Γ b W δ M1 fun y M2 => wCmp op x y M2 fun z M3 => wChn z fun k => Q k M3
  | .chn op op' a b c, W, δ, M, Q => dE Γ a W δ M fun x M1 => dE Γ b W δ M1 fun y M2 => wCmp op x y M2 fun z M3 => wChn z fun k => if k = true then dE Γ c W δ M3 fun u M4 => wCmp op' y u M4 fun z' M5 => wChn z' fun k' => Q k' M5 else Q false M3
  | .var i, _, δ, M, Q => opt δ[i]? fun o => opt o fun d => dTru d M fun k => Q k M
  | .cst d, _, _, M, Q => dTru d M fun k => Q k M
  | .bin op a b, W, δ, M, Q => dE Γ a W δ M fun x M1 => dE Γ b W δ M1 fun y M2 => wBin op x y M2 fun z M3 => dTru z M3 fun k => Q k M3
  | .idx a b, W, δ, M, Q => dE Γ a W δ M fun x M1 => dE Γ b W δ M1 fun y M2 => wIdx x y M2 fun z M3 => dTru z M3 fun k => Q k M3
  | .call j as, W, δ, M, Q => dA Γ as W δ M fun ds M1 => opt Γ[j]? fun φ => φ ds M1 (fun z M3 => dTru z M3 fun k => Q k M3) fun x fs M' => W x fs δ M'
  | .calv i as, W, δ, M, Q => opt δ[i]? fun o => opt o fun f => opt (fnOf f) fun j => opt Γ[j]? fun φ => dA Γ as W δ M fun ds M1 => φ ds M1 (fun z M3 => dTru z M3 fun k => Q k M3) fun x fs M' => W x fs δ M'
  | .blt b as, W, δ, M, Q => dA Γ as W δ M fun ds M1 => wBlt b ds M1 fun z M3 => dTru z M3 fun k => Q k M3
  | _, _, _, _, _ => False
def dA (Γ : List DSp) : Irs → WD → WpA
  | .nil, _, _, M, Q => Q [] M
  | .cons a as, W, δ, M, Q => dE Γ a W δ M fun d M1 => dA Γ as W δ M1 fun ds M2 => Q (d :: ds) M2
def dO (Γ : List DSp) : Io → WD → Ev → Mem → (Option Int → Mem → Prop) → Prop
  | .none, _, _, M, Q => Q none M
  | .some a, W, δ, M, Q => dE Γ a W δ M fun d M1 => match d with
    | .int i => Q (some i) M1
    | _ => False
def dI (Γ : List DSp) : It → WD → Ev → Mem → (List D → (Mem → Prop) → Mem → Prop) → Prop
  | .rng1 a, W, δ, M, k => dE Γ a W δ M fun x M1 => rg1 x fun ds => k ds (fun _ => True) M1
  | .rng2 a b, W, δ, M, k => dE Γ a W δ M fun x M1 => dE Γ b W δ M1 fun y M2 => rg2 x y fun ds => k ds (fun _ => True) M2
  | .rng3 a b c, W, δ, M, k => dE Γ a W δ M fun x M1 => dE Γ b W δ M1 fun y M2 => dE Γ c W δ M2 fun z M3 => rg3 x y z fun ds => k ds (fun _ => True) M3
  | .val a, W, δ, M, k => dE Γ a W δ M fun x M1 => opt (itM M1 x) fun ds => ds.length ≤ sizeLine → k ds (chk x ds) M1
end
end DL
namespace DL
open PySem PySem.Spec PyProof.Rows L2
section
variable {X : Cx} {T : Tx} {H0 : Hp} {a b c : Expr} {wa wb wc : WpE} {ta tb : WpT} {pos : Pos}
/-! ### readings put together -/
theorem two_E {f : D → D → Mem → QD → Prop} {σ : L2.St} {H : Hp} {k : VK} (h : liftE T H0 (fun δ M Q => wa δ M fun x M1 => wb δ M1 fun y M2 => f x y M2 Q) σ H k) : tOp (rD T f) (liftE T H0 wa) (liftE T H0 wb) σ H k := by
  obtain ⟨δ, M, Q, rl, hw, kk⟩ := h
  refine ⟨δ, M, _, rl, hw, fun v H1 d M1 r1 s1 d1 q1 => ⟨δ, M1, _, r1, q1, fun u H2 e M2 r2 s2 d2 q2 => ⟨d, e, M2, Q, d1.stb s2, d2, r2.mem, q2, fun w H3 f M3 s3 m3 d3 q3 => ?_⟩⟩⟩
  exact kk w H3 f M3 (r2.to s3 m3) ((s1.trans s2).trans s3) d3 q3
theorem one_E {f : D → Mem → QD → Prop} {σ : L2.St} {H : Hp} {k : VK} (h : liftE T H0 (fun δ M Q => wa δ M fun x M1 => f x M1 Q) σ H k) :
    liftE T H0 wa σ H fun v H1 => ∃ d M Q, Den T H1 v d ∧ MemOk T H1 M ∧ f d M Q ∧ ∀ w H' e M', Stb H1 H' → MemOk T H' M' → Den T H' w e → Q e M' → k w H' := by
  obtain ⟨δ, M, Q, rl, hw, kk⟩ := h
  exact ⟨δ, M, _, rl, hw, fun v H1 d M1 r1 s1 d1 q1 => ⟨d, M1, Q, d1, r1.mem, q1, fun w H' e M' s m dd q => kk w H' e M' (r1.to s m) (s1.trans s) dd q⟩⟩
/-! ### names and constants -/
theorem de_var {i : Nat} {x : Str} (hN : X.N[i]? = some x) (hv : Vis X.env.scope x) (hd : (x == ("__debug__" : Str)) = false) (hcd : (x == ("__classdict__" : Str)) = false) : PE X (.Name x pos) (liftE T H0 fun δ M Q => opt δ[i]? fun o => opt o fun d => Q d M) :=
  (pe_var hN hv hd hcd).weak fun σ H k ⟨δ, M, Q, rl, hw, kk⟩ => by
    obtain ⟨o, e1, hw⟩ := ofOpt hw
    obtain ⟨d, rfl, hw⟩ := ofOpt hw
    obtain ⟨v, e2, hd⟩ := rl.env.get i d e1
    exact ⟨v, e2, kk v H d M rl (Stb.refl _) hd hw⟩
theorem de_cst {e : Expr} {v : V} {d : D} (h : PE X e (tC v)) (hd : ∀ H, Den T H v d) : PE X e (liftE T H0 fun δ M Q => Q d M) :=
  h.weak fun σ H k ⟨δ, M, Q, rl, hw, kk⟩ => kk v H d M rl (Stb.refl _) (hd H) hw
/-! ### operators -/
theorem de_bin {op : Operator} (hT : X.K = T.K) (ha : PE X a (liftE T H0 wa)) (hb : PE X b (liftE T H0 wb)) : PE X (.BinOp a op b pos) (liftE T H0 fun δ M Q => wa δ M fun x M1 => wb δ M1 fun y M2 => wBin op x y M2 Q) :=
  (pe_op (op_binD hT op) ha hb).weak fun _ _ _ h => two_E h
theorem de_cmp {op : CmpOp} (hT : X.K = T.K) (hu : X.A.units + 64 < cLine) (hm : behindInMarks op b = false) (ha : PE X a (liftE T H0 wa)) (hb : PE X b (liftE T H0 wb)) :
    PE X (.Compare a [op] [b] pos) (liftE T H0 fun δ M Q => wa δ M fun x M1 => wb δ M1 fun y M2 => wCmp op x y M2 Q) :=
  (pe_cmpR (op_cmpD hT hu op) ha hb hm).weak fun _ _ _ h => two_E h
theorem de_neg (ha : PE X a (liftE T H0 wa)) : PE X (.UnaryOp .USub a pos) (liftE T H0 fun δ M Q => wa δ M fun x M1 => wNeg x M1 Q) :=
  (pe_un un_neg ha).weak fun σ H k h => by
    obtain ⟨δ, M, Q, rl, hw, kk⟩ := h
    refine ⟨δ, M, _, rl, hw, fun v H1 d M1 r1 s1 d1 q1 => ?_⟩
    cases d1 with
    | int i => exact ⟨i, rfl, kk _ _ _ _ r1 s1 (.int _) q1⟩
    | _ => exact (show False from q1).elim
theorem de_not (hT : X.K = T.K) (ha : PE X a (liftE T H0 wa)) : PE X (.UnaryOp .Not a pos) (liftE T H0 fun δ M Q => wa δ M fun x M1 => dTru x M1 fun k => Q (.bl (!k)) M1) :=
  (pe_notT ha).weak fun σ H k h => by
    obtain ⟨δ, M, Q, rl, hw, kk⟩ := h
    refine ⟨δ, M, _, rl, hw, fun v H1 d M1 r1 s1 d1 q1 => ?_⟩
    obtain ⟨b, t, q⟩ := tru_den r1.mem d1 q1
    exact ⟨b, by rw [hT]; exact t, kk _ _ _ _ r1 s1 (.bl _) q⟩
theorem de_and {rest : List Expr} (hT : X.K = T.K) (ha : PE X a (liftE T H0 wa)) (hb : PE X (.BoolOp .And (b :: rest) pos) (liftE T H0 wb)) :
    PE X (.BoolOp .And (a :: b :: rest) pos) (liftE T H0 fun δ M Q => wa δ M fun x M1 => dTru x M1 fun k => if k = true then wb δ M1 Q else Q x M1) :=
  (pe_andT ha hb).weak fun σ H k h => by
    obtain ⟨δ, M, Q, rl, hw, kk⟩ := h
    refine ⟨δ, M, _, rl, hw, fun v H1 d M1 r1 s1 d1 q1 => ?_⟩
    obtain ⟨b, t, q⟩ := tru_den r1.mem d1 q1
    refine ⟨b, by rw [hT]; exact t, ?_⟩
    cases b with
    | true => exact iteT ⟨δ, M1, Q, r1, by simpa using q, fun w H' e M' r s dd qq => kk w H' e M' r (s1.trans s) dd qq⟩
    | false => exact iteF (kk _ _ _ _ r1 s1 d1 (by simpa using q))
theorem de_or {rest : List Expr} (hT : X.K = T.K) (ha : PE X a (liftE T H0 wa)) (hb : PE X (.BoolOp .Or (b :: rest) pos) (liftE T H0 wb)) :
    PE X (.BoolOp .Or (a :: b :: rest) pos) (liftE T H0 fun δ M Q => wa δ M fun x M1 => dTru x M1 fun k => if k = true then Q x M1 else wb δ M1 Q) :=
  (pe_orT ha hb).weak fun σ H k h => by
    obtain ⟨δ, M, Q, rl, hw, kk⟩ := h
    refine ⟨δ, M, _, rl, hw, fun v H1 d M1 r1 s1 d1 q1 => ?_⟩
    obtain ⟨b, t, q⟩ := tru_den r1.mem d1 q1
    refine ⟨b, by rw [hT]; exact t, ?_⟩
    cases b with
    | true => exact iteT (kk _ _ _ _ r1 s1 d1 (by simpa using q))
    | false => exact iteF ⟨δ, M1, Q, r1, by simpa using q, fun w H' e M' r s dd qq => kk w H' e M' r (s1.trans s) dd qq⟩
theorem chn_E {f g : D → D → Mem → QD → Prop} {σ : L2.St} {H : Hp} {k : VK}
    (h : liftE T H0 (fun δ M Q => wa δ M fun x M1 => wb δ M1 fun y M2 => f x y M2 fun z M3 => wChn z fun k => if k = true then wc δ M3 fun u M4 => g y u M4 Q else Q (.bl false) M3) σ H k) :
    tChain (rD T f) (rD T g) (liftE T H0 wa) (liftE T H0 wb) (liftE T H0 wc) σ H k := by
  obtain ⟨δ, M, Q, rl, hw, kk⟩ := h
  refine ⟨δ, M, _, rl, hw, fun v H1 d M1 r1 s1 d1 q1 => ⟨δ, M1, _, r1, q1, fun u H2 e M2 r2 s2 d2 q2 => ⟨d, e, M2, _, d1.stb s2, d2, r2.mem, q2, fun w H3 f M3 s3 m3 d3 q3 => ?_⟩⟩⟩
  cases d3 with
  | bl k =>
    have r3 := r2.to s3 m3
    have st := (s1.trans s2).trans s3
    refine ⟨k, rfl, ?_⟩
    cases k with
    | true => exact iteT ⟨δ, M3, _, r3, by simpa [wChn] using q3, fun w H4 i M4 r4 s4 d4 q4 => ⟨e, i, M4, Q, (d2.stb s3).stb s4, d4, r4.mem, q4, fun w H' e M' s m dd q => kk w H' e M' (r4.to s m) ((st.trans s4).trans s) dd q⟩⟩
    | false => exact iteF (kk _ _ _ _ r3 st (.bl _) (by simpa [wChn] using q3))
  | _ => exact (show False from q3).elim
theorem de_chn {op op' : CmpOp} (hT : X.K = T.K) (hu : X.A.units + 64 < cLine) (hm : lastMarks [op, op'] [b, c] = false) (ha : PE X a (liftE T H0 wa)) (hb : PE X b (liftE T H0 wb)) (hc : PE X c (liftE T H0 wc)) :
    PE X (.Compare a [op, op'] [b, c] pos) (liftE T H0 fun δ M Q => wa δ M fun x M1 => wb δ M1 fun y M2 => wCmp op x y M2 fun z M3 => wChn z fun k => if k = true then wc δ M3 fun u M4 => wCmp op' y u M4 Q else Q (.bl false) M3) :=
  (pe_chain (op_cmpD hT hu op) (op_cmpD hT hu op') ha hb hc hm).weak fun _ _ _ h => chn_E h
theorem de_ite {t : Expr} (ht : PT X t (liftT T H0 ta)) (ha : PE X a (liftE T H0 wa)) (hb : PE X b (liftE T H0 wb)) : PE X (.IfExp t a b pos) (liftE T H0 fun δ M Q => ta δ M fun k M1 => if k = true then wa δ M1 Q else wb δ M1 Q) :=
  (pe_ifExp ht ha hb).weak fun σ H k h => by
    obtain ⟨δ, M, Q, rl, hw, kk⟩ := h
    refine ⟨δ, M, _, rl, hw, fun b H1 M1 r1 s1 q1 => ?_⟩
    cases b with
    | true => exact iteT ⟨δ, M1, Q, r1, by simpa using q1, fun w H' e M' r s dd qq => kk w H' e M' r (s1.trans s) dd qq⟩
    | false => exact iteF ⟨δ, M1, Q, r1, by simpa using q1, fun w H' e M' r s dd qq => kk w H' e M' r (s1.trans s) dd qq⟩
/-! ### tests -/
theorem dt_val (hT : X.K = T.K) (ha : PE X a (liftE T H0 wa)) (he : ∀ whole, isTrue a X.env whole = (do let v ← whole; standAt a.pos; holding [v] (truthy v))) :
    PT X a (liftT T H0 fun δ M Q => wa δ M fun z M3 => dTru z M3 fun k => Q k M3) :=
  (pt_truth ha he).weak fun σ H k h => by
    obtain ⟨δ, M, Q, rl, hw, kk⟩ := h
    refine ⟨δ, M, _, rl, hw, fun v H1 d M1 r1 s1 d1 q1 => ?_⟩
    obtain ⟨b, t, q⟩ := tru_den r1.mem d1 q1
    exact ⟨b, by rw [hT]; exact t, kk _ _ _ r1 s1 q⟩
theorem dt_cmp {op : CmpOp} (hT : X.K = T.K) (hu : X.A.units + 64 < cLine) (hm : behindInMarks op b = false) (ha : PE X a (liftE T H0 wa)) (hb : PE X b (liftE T H0 wb)) :
    PT X (.Compare a [op] [b] pos) (liftT T H0 fun δ M Q => wa δ M fun x M1 => wb δ M1 fun y M2 => wCmp op x y M2 fun z M3 => wChn z fun k => Q k M3) :=
  (pt_cmpR (op_cmpD hT hu op) ha hb hm).weak fun σ H k h => by
    obtain ⟨δ, M, Q, rl, hw, kk⟩ := h
    refine two_E (wa := wa) (wb := wb) ⟨δ, M, _, rl, hw, fun v H' d M' r s dd q => ?_⟩
    cases dd with
    | bl k => exact ⟨k, rfl, kk _ _ _ r s q⟩
    | _ => exact (show False from q).elim
theorem dt_chn {op op' : CmpOp} (hT : X.K = T.K) (hu : X.A.units + 64 < cLine) (hm : lastMarks [op, op'] [b, c] = false) (ha : PE X a (liftE T H0 wa)) (hb : PE X b (liftE T H0 wb)) (hc : PE X c (liftE T H0 wc)) :
    PT X (.Compare a [op, op'] [b, c] pos) (liftT T H0 fun δ M Q => wa δ M fun x M1 => wb δ M1 fun y M2 => wCmp op x y M2 fun z M3 => wChn z fun k => if k = true then wc δ M3 fun u M4 => wCmp op' y u M4 fun z' M5 => wChn z' fun k' => Q k' M5 else Q false M3) :=
  (pt_chain (op_cmpD hT hu op) (op_cmpD hT hu op') ha hb hc hm).weak fun σ H k h => by
    obtain ⟨δ, M, Q, rl, hw, kk⟩ := h
    refine chn_E (wa := wa) (wb := wb) (wc := wc) ⟨δ, M, fun z M5 => wChn z fun k' => Q k' M5, rl, hw, fun v H' d M' r s dd q => ?_⟩
    cases dd with
    | bl k => exact ⟨k, rfl, kk _ _ _ r s q⟩
    | _ => exact (show False from q).elim
theorem dt_not (ha : PT X a (liftT T H0 ta)) : PT X (.UnaryOp .Not a pos) (liftT T H0 fun δ M Q => ta δ M fun k M1 => Q (!k) M1) :=
  (pt_not ha).weak fun σ H k h => by
    obtain ⟨δ, M, Q, rl, hw, kk⟩ := h
    exact ⟨δ, M, _, rl, hw, fun b H1 M1 r1 s1 q1 => kk _ _ _ r1 s1 q1⟩
theorem dw_and {rest : List Expr} (ha : PT X a (liftT T H0 ta)) (hb : PW X (.BoolOp .And (b :: rest) pos) (liftT T H0 tb)) : PW X (.BoolOp .And (a :: b :: rest) pos) (liftT T H0 fun δ M Q => ta δ M fun k M1 => if k = true then tb δ M1 Q else Q false M1) :=
  (pw_and ha hb).weak fun σ H k h => by
    obtain ⟨δ, M, Q, rl, hw, kk⟩ := h
    refine ⟨δ, M, _, rl, hw, fun b H1 M1 r1 s1 q1 => ?_⟩
    cases b with
    | true => exact iteT ⟨δ, M1, Q, r1, by simpa using q1, fun w H' M' r s qq => kk w H' M' r (s1.trans s) qq⟩
    | false => exact iteF (kk _ _ _ r1 s1 (by simpa using q1))
theorem dw_or {rest : List Expr} (ha : PT X a (liftT T H0 ta)) (hb : PW X (.BoolOp .Or (b :: rest) pos) (liftT T H0 tb)) : PW X (.BoolOp .Or (a :: b :: rest) pos) (liftT T H0 fun δ M Q => ta δ M fun k M1 => if k = true then Q true M1 else tb δ M1 Q) :=
  (pw_or ha hb).weak fun σ H k h => by
    obtain ⟨δ, M, Q, rl, hw, kk⟩ := h
    refine ⟨δ, M, _, rl, hw, fun b H1 M1 r1 s1 q1 => ?_⟩
    cases b with
    | true => exact iteT (kk _ _ _ r1 s1 (by simpa using q1))
    | false => exact iteF ⟨δ, M1, Q, r1, by simpa using q1, fun w H' M' r s qq => kk w H' M' r (s1.trans s) qq⟩
/-! ### argument lists, displays -/
theorem da_nil : PA X [] (liftA T H0 fun _ M Q => Q [] M) := pa_nil.weak fun σ H k ⟨δ, M, Q, rl, hw, kk⟩ => kk [] H [] M rl (Stb.refl _) .nil hw
theorem da_cons {e : Expr} {es : List Expr} {wr : WpA} (h1 : PE X e (liftE T H0 wa)) (h2 : PA X es (liftA T H0 wr)) (hs : notStar e = true) : PA X (e :: es) (liftA T H0 fun δ M Q => wa δ M fun d M1 => wr δ M1 fun ds M2 => Q (d :: ds) M2) :=
  (pa_cons h1 h2 (star_ok hs)).weak fun σ H k ⟨δ, M, Q, rl, hw, kk⟩ =>
    ⟨δ, M, _, rl, hw, fun v H1 d M1 r1 s1 d1 q1 => ⟨δ, M1, _, r1, q1, fun vs H2 ds M2 r2 s2 d2 q2 => kk _ _ _ _ r2 (s1.trans s2) (.cons (d1.stb s2) d2) q2⟩⟩
theorem line4096 {n : Nat} (h : n ≤ 4096) : n ≤ sizeLine := by rw [sizeLine_eq]; omega
theorem de_tup {es : List Expr} {wr : WpA} {k1 : Nat} (h : PA X es (liftA T H0 wr)) : PE X (.Tuple es k1 pos) (liftE T H0 fun δ M Q => wr δ M fun ds M1 => ds.length ≤ 4096 ∧ Q (.tup ds) M1) :=
  (pe_tup h).weak fun σ H k ⟨δ, M, Q, rl, hw, kk⟩ =>
    ⟨δ, M, _, rl, hw, fun vs H1 ds M1 r1 s1 d1 q1 => ⟨by rw [d1.length]; exact line4096 q1.1, fun p n => kk _ _ _ _ (r1.new n) (s1.trans (Stb.new n)) (.tup (.inl (.inl upd_same)) (d1.stb (Stb.new n))) q1.2⟩⟩
theorem de_lst {es : List Expr} {wr : WpA} (h : PA X es (liftA T H0 wr)) : PE X (.List es pos) (liftE T H0 fun δ M Q => wr δ M fun ds M1 => ds.length ≤ 4096 ∧ Q (.lst ds) M1) :=
  (PE.lock (pe_lst h)).weak fun σ H k ⟨δ, M, Q, rl, hw, kk⟩ =>
    ⟨δ, M, _, rl, hw, fun vs H1 ds M1 r1 s1 d1 q1 => ⟨by rw [d1.length]; exact line4096 q1.1, fun p n => lock_new n r1.mem d1 fun v H' s m dd => kk _ _ _ _ (r1.to s m) (s1.trans s) dd q1.2⟩⟩
theorem de_mls {es : List Expr} {wr : WpA} (h : PA X es (liftA T H0 wr)) : PE X (.List es pos) (liftE T H0 fun δ M Q => wr δ M fun ds M1 => ds.length ≤ 4096 ∧ ∀ p, M1 p = none → Q (.ref p) (M1.put p (.lst ds))) :=
  (pe_lst h).weak fun σ H k ⟨δ, M, Q, rl, hw, kk⟩ =>
    ⟨δ, M, _, rl, hw, fun vs H1 ds M1 r1 s1 d1 q1 => ⟨by rw [d1.length]; exact line4096 q1.1, fun p n =>
      kk _ _ _ _ (r1.to (Stb.new n) (r1.mem.put (m := .lst ds) (Stb.new n) ⟨vs, upd_same, d1.stb (Stb.new n)⟩)) (s1.trans (Stb.new n)) (.ref p) (q1.2 p (r1.mem.free n))⟩⟩
theorem de_idx (hT : X.K = T.K) (hs : notSlice b = true) (ha : PE X a (liftE T H0 wa)) (hb : PE X b (liftE T H0 wb)) : PE X (.Subscript a b pos) (liftE T H0 fun δ M Q => wa δ M fun x M1 => wb δ M1 fun y M2 => wIdx x y M2 Q) :=
  (pe_ix (ix_D hT) ha hb (plainIx hs)).weak fun _ _ _ h => two_E h
def liftO (T : Tx) (H0 : Hp) (w : Ev → Mem → (Option Int → Mem → Prop) → Prop) : TO := fun σ H k => ∃ δ M Q, Rl T H0 σ H δ M ∧ w δ M Q ∧ ∀ o H' M', Rl T H0 σ H' δ M' → Stb H H' → Q o M' → k o H'
theorem do_none : PO X none (liftO T H0 fun _ M Q => Q none M) := by
  refine ⟨fun pins s σ H Q I h => ?_⟩
  obtain ⟨δ, M, QQ, rl, hw, kk⟩ := h
  exact (po_none).run pins s σ H Q I (kk none H M rl (Stb.refl _) hw)
theorem do_some (ha : PE X a (liftE T H0 wa)) : PO X (some a) (liftO T H0 fun δ M Q => wa δ M fun d M1 => match d with
    | .int i => Q (some i) M1
    | _ => False) := by
  refine ⟨fun pins s σ H Q I h => ?_⟩
  obtain ⟨δ, M, QQ, rl, hw, kk⟩ := h
  refine (po_some ha).run pins s σ H Q I ⟨δ, M, _, rl, hw, fun v H1 d M1 r1 s1 d1 q1 => ?_⟩
  cases d1 with
  | int i => exact ⟨i, rfl, kk _ _ _ r1 s1 q1⟩
  | _ => exact (show False from q1).elim
theorem de_slc {lo hi : Option Expr} {p2 : Pos} {wl wh : Ev → Mem → (Option Int → Mem → Prop) → Prop} (hT : X.K = T.K) (ha : PE X a (liftE T H0 wa)) (hl : PO X lo (liftO T H0 wl)) (hh : PO X hi (liftO T H0 wh)) :
    PE X (.Subscript a (.Slice lo hi none p2) pos) (liftE T H0 fun δ M Q => wa δ M fun x M1 => wl δ M1 fun l M2 => wh δ M2 fun u M3 => wSlc x l u M3 Q) :=
  (pe_slice (sl_D hT) ha hl hh).weak fun σ H k ⟨δ, M, Q, rl, hw, kk⟩ =>
    ⟨δ, M, _, rl, hw, fun v H1 d M1 r1 s1 d1 q1 => ⟨δ, M1, _, r1, q1, fun l H2 M2 r2 s2 q2 => ⟨δ, M2, _, r2, q2, fun u H3 M3 r3 s3 q3 =>
      ⟨d, M3, Q, (d1.stb s2).stb s3, r3.mem, q3, fun w H' e M' s m dd q => kk w H' e M' (r3.to s m) (((s1.trans s2).trans s3).trans s) dd q⟩⟩⟩⟩
end
end DL
namespace DL
open PySem PySem.Spec PyProof.Rows L2
/-! ### what is walked -/
structure ItOk (T : Tx) (J : L2.It) (H1 : Hp) (ds : List D) (ch : Mem → Prop) : Prop where
  go : ∀ i H M, Stb H1 H → MemOk T H M → ch M → i < ds.length → J.go i H
  yld : ∀ i H M x H' d, Stb H1 H → MemOk T H M → ch M → ds[i]? = some d → J.yld i H x H' → Stb H H' ∧ MemOk T H' M ∧ Den T H' x d
  stop : ∀ H M, Stb H1 H → MemOk T H M → ch M → J.stop ds.length H
abbrev WpI := Ev → Mem → (List D → (Mem → Prop) → Mem → Prop) → Prop
def liftI (T : Tx) (H0 : Hp) (w : WpI) : TI := fun σ H R => ∃ δ M Q, Rl T H0 σ H δ M ∧ w δ M Q ∧ ∀ J H' ds ch M', Rl T H0 σ H' δ M' → Stb H H' → ItOk T J H' ds ch → Q ds ch M' → R J H'
section
variable {X : Cx} {T : Tx} {H0 : Hp} {a b c tg : Expr} {wa wb wc : WpE} {pos : Pos}
theorem _root_.L2.PI.weak {e : Expr} {t t' : TI} (h : PI X tg e t) (w : ∀ σ H k, t' σ H k → t σ H k) : PI X tg e t' := ⟨fun p s σ H k I q => h.run p s σ H k I (w σ H k q)⟩
/-- a list, a tuple, a text: whichever the value is -/
theorem pi_any {e : Expr} {te : TE} (he : PE X e te) : PI X tg e (fun σ H R => te σ H fun x H1 =>
    (∃ a xs, x = .ref a ∧ SqL X.K H1 a xs ∧ (xs.length ≤ sizeLine → R (Itl X.K a) H1)) ∨ (∃ a xs, x = .ref a ∧ SqT X.K H1 a xs ∧ (xs.length ≤ sizeLine → R (Itt X.K a) H1)) ∨ ∃ z, x = .str z ∧ R (Its z) H1) := by
  refine ⟨fun pins s σ H R I h => ?_⟩
  refine thn (he.run pins s σ H _ I h) fun v s1 ⟨x, H1, I1, r1, q1⟩ => ?_
  rcases q1 with ⟨a, xs, e, hq, q⟩ | ⟨a, xs, e, hq, q⟩ | ⟨z, e, q⟩
  · subst e
    cases r1
    obtain ⟨its, rv, p, hz⟩ := I1.list hq
    refine wpAny_pyIter_list p.isList ?_
    refine ⟨s1.heap.objs.size, [s1.heap.objs.size], _, _, H1, rfl, I1.kept (t' := s1.toks) fun b o e => Heap.get?_push_of_some _ e, turn_list a _, ⟨_, Heap.get?_push_size _ rfl, rfl, rfl⟩, fun b hb => ?_, q hz⟩
    have e : b = s1.heap.objs.size := by simpa using hb
    subst e
    exact I1.fpOk (Nat.le_refl _) (I1.hok.fresh (Nat.le_refl _))
  · subst e
    cases r1
    obtain ⟨its, rv, p, hz⟩ := I1.tuple hq
    refine wpAny_pyIter_tuple (show s1.heap.IsTuple a its.toArray from p) ?_
    refine ⟨s1.heap.objs.size, [s1.heap.objs.size], _, _, H1, rfl, I1.kept (t' := s1.toks) fun b o e => Heap.get?_push_of_some _ e, turn_tuple a _, ⟨_, Heap.get?_push_size _ rfl, rfl, rfl⟩, fun b hb => ?_, q hz⟩
    have e : b = s1.heap.objs.size := by simpa using hb
    subst e
    exact I1.fpOk (Nat.le_refl _) (I1.hok.fresh (Nat.le_refl _))
  · subst e
    obtain ⟨t, rfl⟩ := r1
    cases ha : z.cps.all (· < 128)
    · exact wpAny_pyIter_wide ha (pi_one (tk := s1.toks) I1 _ (turn_str _ z t "str_iterator" (.inr rfl)) ⟨_, Heap.get?_push_size _ rfl, rfl, rfl⟩ q)
    · exact wpAny_pyIter_ascii ha (pi_one (tk := s1.toks) I1 _ (turn_str _ z t "str_ascii_iterator" (.inl rfl)) ⟨_, Heap.get?_push_size _ rfl, rfl, rfl⟩ q)
theorem itok_list {H1 : Hp} {a : Addr} {vs : List V} {ds : List D} (h : FzL T.K H1 a vs) (r : DenL T H1 vs ds) : ItOk T (Itl T.K a) H1 ds (fun _ => True) where
  go := fun i H M s m _ hi => by
    obtain ⟨v, e, _⟩ := r.get (List.getElem?_eq_getElem hi)
    exact ⟨vs, v, (h.stb s).seq, e⟩
  yld := fun i H M x H' d s m _ e y => by
    obtain ⟨rfl, y⟩ := y
    obtain ⟨v, e1, hd⟩ := r.get e
    have := y vs (h.stb s).seq
    rw [e1] at this
    cases this
    exact ⟨Stb.refl _, m, hd.stb s⟩
  stop := fun H M s m _ => ⟨vs, (h.stb s).seq, Nat.le_of_eq r.length⟩
theorem itok_tup {H1 : Hp} {a : Addr} {vs : List V} {ds : List D} (h : SqT T.K H1 a vs) (r : DenL T H1 vs ds) : ItOk T (Itt T.K a) H1 ds (fun _ => True) where
  go := fun i H M s m _ hi => by
    obtain ⟨v, e, _⟩ := r.get (List.getElem?_eq_getElem hi)
    exact ⟨vs, v, SqT.stb s h, e⟩
  yld := fun i H M x H' d s m _ e y => by
    obtain ⟨rfl, y⟩ := y
    obtain ⟨v, e1, hd⟩ := r.get e
    have := y vs (SqT.stb s h)
    rw [e1] at this
    cases this
    exact ⟨Stb.refl _, m, hd.stb s⟩
  stop := fun H M s m _ => ⟨vs, SqT.stb s h, Nat.le_of_eq r.length⟩
theorem itok_ref {H1 : Hp} {a : Addr} {ds : List D} : ItOk T (Itl T.K a) H1 ds (fun M => M a = some (.lst ds)) where
  go := fun i H M s m ch hi => by
    obtain ⟨vs, e, r⟩ := m a _ ch
    obtain ⟨v, e1, _⟩ := r.get (List.getElem?_eq_getElem hi)
    exact ⟨vs, v, SqL.of e, e1⟩
  yld := fun i H M x H' d s m ch e y => by
    obtain ⟨rfl, y⟩ := y
    obtain ⟨vs, e0, r⟩ := m a _ ch
    obtain ⟨v, e1, hd⟩ := r.get e
    have := y vs (SqL.of e0)
    rw [e1] at this
    cases this
    exact ⟨Stb.refl _, m, hd⟩
  stop := fun H M s m ch => by
    obtain ⟨vs, e0, r⟩ := m a _ ch
    exact ⟨vs, SqL.of e0, Nat.le_of_eq r.length⟩
theorem itok_str {H1 : Hp} {z : Str} : ItOk T (Its z) H1 (z.cps.toList.map fun c => .str ⟨#[c]⟩) (fun _ => True) where
  go := fun i H M s m ch hi => by
    show i < z.cps.size
    simpa using hi
  yld := fun i H M x H' d s m ch e y => by
    obtain ⟨rfl, c, e1, rfl⟩ := y
    rw [List.getElem?_map, Array.getElem?_toList, e1] at e
    cases e
    exact ⟨Stb.refl _, m, .str _ (sgn_len c)⟩
  stop := fun H M s m ch => by
    show z.cps.size ≤ _
    simp
theorem itok_rng {H1 : Hp} {lo : Int} {n : Nat} : ItOk T (Itr lo n) H1 (rngD lo 1 n) (fun _ => True) where
  go := fun i H M s m ch hi => by
    show i < n
    simpa [rngD] using hi
  yld := fun i H M x H' d s m ch e y => by
    obtain ⟨rfl, rfl⟩ := y
    unfold rngD at e
    rw [List.getElem?_map] at e
    cases q : (List.range n)[i]? with
    | none => rw [q] at e; cases e
    | some j =>
      rw [q] at e
      cases e
      have : j = i := by
        have := List.getElem?_eq_some_iff.mp q
        obtain ⟨h1, h2⟩ := this
        simpa using h2.symm
      subst this
      refine ⟨Stb.refl _, m, ?_⟩
      show Den T H' (V.int (lo + (j : Int))) (.int (lo + (j : Int) * 1))
      rw [Int.mul_one]
      exact .int _
  stop := fun H M s m ch => by
    show n ≤ _
    simp [rngD]
theorem itok_rngC {H1 : Hp} {lo c : Int} {n : Nat} : ItOk T (Itc lo c n) H1 (rngD lo c n) (fun _ => True) where
  go := fun i H M s m ch hi => by
    show i < n
    simpa [rngD] using hi
  yld := fun i H M x H' d s m ch e y => by
    obtain ⟨rfl, rfl⟩ := y
    unfold rngD at e
    rw [List.getElem?_map] at e
    cases q : (List.range n)[i]? with
    | none => rw [q] at e; cases e
    | some j =>
      rw [q] at e
      cases e
      have : j = i := by
        have := List.getElem?_eq_some_iff.mp q
        obtain ⟨h1, h2⟩ := this
        simpa using h2.symm
      subst this
      exact ⟨Stb.refl _, m, .int _⟩
  stop := fun H M s m ch => by
    show n ≤ _
    simp [rngD]
theorem di_val (hT : X.K = T.K) (ha : PE X a (liftE T H0 wa)) : PI X tg a (liftI T H0 fun δ M k => wa δ M fun x M1 => opt (itM M1 x) fun ds => ds.length ≤ sizeLine → k ds (chk x ds) M1) :=
  (pi_any ha).weak fun σ H R ⟨δ, M, Q, rl, hw, kk⟩ => ⟨δ, M, _, rl, hw, fun v H1 d M1 r1 s1 d1 q1 => by
    obtain ⟨ds, e, q⟩ := ofOpt q1
    cases d1 with
    | str z hz =>
      cases e
      refine .inr (.inr ⟨z, rfl, kk _ _ _ _ _ r1 s1 itok_str (q ?_)⟩)
      rw [List.length_map]
      exact hz
    | tup h r =>
      cases e
      exact .inr (.inl ⟨_, _, rfl, by rw [hT]; exact h, fun z => by rw [hT]; exact kk _ _ _ _ _ r1 s1 (itok_tup h r) (q (by rw [← r.length]; exact z))⟩)
    | lst h r =>
      cases e
      exact .inl ⟨_, _, rfl, by rw [hT]; exact h.seq, fun z => by rw [hT]; exact kk _ _ _ _ _ r1 s1 (itok_list h r) (q (by rw [← r.length]; exact z))⟩
    | ref p =>
      have e' : lsM M1 (.ref p) = some ds := e
      have e2 : M1 p = some (.lst ds) := by
        have e3 : (match M1 p with
          | some (.lst ds) => some ds
          | _ => none) = some ds := e'
        cases z : M1 p with
        | none => rw [z] at e3; cases e3
        | some o =>
          rw [z] at e3
          cases o with
          | lst es => cases e3; rfl
          | ins c fs => cases e3
      obtain ⟨vs, h1, r⟩ := r1.mem p _ e2
      exact .inl ⟨_, _, rfl, SqL.of h1, fun z => by rw [hT]; exact kk _ _ _ _ _ r1 s1 itok_ref (q (by rw [← r.length]; exact z))⟩
    | _ => cases e⟩
theorem di_rng1 {p : Pos} (hg : Gl X "range") (hm : X.mg "range" = none) (hs : notStar a = true) (ha : PE X a (liftE T H0 wa)) : PI X tg (.Call (.Name "range" p) [a] [] pos) (liftI T H0 fun δ M k => wa δ M fun x M1 => rg1 x fun ds => k ds (fun _ => True) M1) :=
  (pi_range1 hg hm (pa_cons ha pa_nil (star_ok hs)) (star_ok hs)).weak fun σ H R ⟨δ, M, Q, rl, hw, kk⟩ => ⟨δ, M, _, rl, hw, fun v H1 d M1 r1 s1 d1 q1 => by
    cases d1 with
    | int n => exact ⟨n, rfl, q1.1.1, q1.1.2, kk _ _ _ _ _ r1 s1 itok_rng q1.2⟩
    | _ => exact (show False from q1).elim⟩
theorem di_rng2 {p : Pos} (hg : Gl X "range") (hm : X.mg "range" = none) (hs : notStar a = true) (hs2 : notStar b = true) (ha : PE X a (liftE T H0 wa)) (hb : PE X b (liftE T H0 wb)) :
    PI X tg (.Call (.Name "range" p) [a, b] [] pos) (liftI T H0 fun δ M k => wa δ M fun x M1 => wb δ M1 fun y M2 => rg2 x y fun ds => k ds (fun _ => True) M2) :=
  (pi_range2 hg hm (pa_cons ha (pa_cons hb pa_nil (star_ok hs2)) (star_ok hs)) (by rw [star_ok hs, star_ok hs2] <;> rfl) (by rw [star_ok hs2] <;> rfl)).weak fun σ H R ⟨δ, M, Q, rl, hw, kk⟩ =>
    ⟨δ, M, _, rl, hw, fun v H1 d M1 r1 s1 d1 q1 => ⟨δ, M1, _, r1, q1, fun u H2 e M2 r2 s2 d2 q2 => by
      cases d1 with
      | int n => cases d2 with
        | int m => exact ⟨n, m, rfl, ⟨q2.1.1.1, q2.1.1.2, q2.1.2.1, q2.1.2.2⟩, kk _ _ _ _ _ r2 (s1.trans s2) itok_rng q2.2⟩
        | _ => exact (show False from q2).elim
      | _ => exact (show False from q2).elim⟩⟩
theorem di_rng3 {p : Pos} (hg : Gl X "range") (hm : X.mg "range" = none) (hs : notStar a = true) (hs2 : notStar b = true) (hs3 : notStar c = true) (ha : PE X a (liftE T H0 wa)) (hb : PE X b (liftE T H0 wb)) (hc : PE X c (liftE T H0 wc)) :
    PI X tg (.Call (.Name "range" p) [a, b, c] [] pos) (liftI T H0 fun δ M k => wa δ M fun x M1 => wb δ M1 fun y M2 => wc δ M2 fun z M3 => rg3 x y z fun ds => k ds (fun _ => True) M3) :=
  (pi_range3 hg hm (pa_cons ha (pa_cons hb (pa_cons hc pa_nil (star_ok hs3)) (star_ok hs2)) (star_ok hs)) (star_ok hs) (stars_ok (by show (notStar b && (notStar c && true)) = true; rw [hs2, hs3] <;> rfl))).weak fun σ H R ⟨δ, M, Q, rl, hw, kk⟩ =>
    ⟨δ, M, _, rl, hw, fun v H1 d M1 r1 s1 d1 q1 => ⟨δ, M1, _, r1, q1, fun u H2 e M2 r2 s2 d2 q2 => ⟨δ, M2, _, r2, q2, fun w H3 f M3 r3 s3 d3 q3 => by
      cases d1 with
      | int n => cases d2 with
        | int m => cases d3 with
          | int t =>
            obtain ⟨k, hk, q⟩ := q3
            exact ⟨n, m, t, k, rfl, hk, kk _ _ _ _ _ r3 ((s1.trans s2).trans s3) itok_rngC q⟩
          | _ => exact (show False from q3).elim
        | _ => exact (show False from q3).elim
      | _ => exact (show False from q3).elim⟩⟩⟩
/-! ### comprehensions -/
theorem lock_old {H : Hp} {M : Mem} {p : Addr} {ds : List D} {Q : VK} (hm : MemOk T H M) (e : M p = some (.lst ds)) (q : ∀ v H', Stb H H' → MemOk T H' (M.del p) → Den T H' v (.lst ds) → Q v H') : lockQ Q (.ref p) H := by
  obtain ⟨vs, h, r⟩ := hm p _ e
  refine ⟨p, _, rfl, h, .inl ⟨vs, rfl⟩, fun o => ?_⟩
  have s : Stb H (upd H p (.frz o (.lst vs))) := Stb.wr (by rw [h]; exact trivial)
  exact q _ _ s (hm.del s) (.lst (.inl ⟨o, upd_same⟩) (r.stb s))
theorem de_lc {elt iter : Expr} {ifs : List Expr} {scope : Scope} {own : List (Str × Nat)} {wi : WpI} {t : Tg} {wt : WpT} {we : WpE} (hc : X.calm = true) (hN : X.N.Nodup) (hi : PI X tg iter (liftI T H0 wi)) (ok : BlkOk X.N X.env.scope scope own)
    (hg : ∀ (s : Shared) (H : Hp) (C : Addr) (cl : List (Str × Addr)) (fp : List Addr), PG (X.blk s H scope (compEnvC scope cl C X.env) fp) tg (liftG T H0 t))
    (ht : ∀ (s : Shared) (H : Hp) (C : Addr) (cl : List (Str × Addr)) (fp : List Addr), PTs (X.blk s H scope (compEnvC scope cl C X.env) fp) ifs (liftT T H0 wt))
    (he : ∀ (s : Shared) (H : Hp) (C : Addr) (cl : List (Str × Addr)) (fp : List Addr), PE (X.blk s H scope (compEnvC scope cl C X.env) fp) elt (liftE T H0 we))
    (hs : ∀ x, foldedSetIterable iter X.env x = pure x) (hsl : ∀ i ∈ t.slots, i ∈ own.map (·.2)) :
    PE X (.ListComp elt [⟨tg, iter, ifs, 0⟩] scope pos) (liftE T H0 fun δ M Q => wi δ M fun ds ch M1 => ∀ p, M1 p = none → lcGo (fun d M k => wTg t d M (wipeD δ (own.map (·.2))) fun δ1 => wt δ1 M fun b M2 => if b = true then we δ1 M2 fun y M3 => k (some y) M3 else k none M2) ch p (fun es M3 => Q (.lst es) M3) ds [] (M1.put p (.lst []))) :=
  (PE.lock (pe_lc hc hN hi ok hg ht he hs)).weak fun σ H k ⟨δ, M, Q, rl, hw, kk⟩ => ⟨δ, M, _, rl, hw, fun J H1 ds ch M1 r1 s1 ok1 q1 D hD => by
    refine ⟨fun i m H2 => m = ds.length - i ∧ i ≤ ds.length ∧ ∃ acc M2, Rl T H0 σ H2 δ M2 ∧ Stb H1 H2 ∧ lcGo (fun d M k => wTg t d M (wipeD δ (own.map (·.2))) fun δ1 => wt δ1 M fun b M2 => if b = true then we δ1 M2 fun y M3 => k (some y) M3 else k none M2) ch D (fun es M3 => Q (.lst es) M3) (ds.drop i) acc M2, ⟨_, rfl, Nat.zero_le _, [], _, r1.to (Stb.new hD) (r1.mem.put (m := .lst []) (Stb.new hD) ⟨[], upd_same, .nil⟩), Stb.new hD, q1 D (r1.mem.free hD)⟩, ?_⟩
    rintro i m H2 ⟨rfl, hi, acc, M2, r2, s2, g⟩
    by_cases hlt : i < ds.length
    · rw [List.drop_eq_getElem_cons hlt] at g
      obtain ⟨gc, g⟩ := g
      refine .inr ⟨ok1.go i H2 M2 s2 r2.mem gc hlt, fun H3 => ∃ acc M3, Rl T H0 σ H3 δ M3 ∧ Stb H1 H3 ∧ lcGo (fun d M k => wTg t d M (wipeD δ (own.map (·.2))) fun δ1 => wt δ1 M fun b M2 => if b = true then we δ1 M2 fun y M3 => k (some y) M3 else k none M2) ch D (fun es M3 => Q (.lst es) M3) (ds.drop (i + 1)) acc M3, ?_, ?_⟩
      · rintro H3 ⟨acc, M3, r3, s3, g3⟩
        exact ⟨_, by omega, rfl, hlt, acc, M3, r3, s3, g3⟩
      · intro x H3 y
        obtain ⟨y1, y2, y3⟩ := ok1.yld i H2 M2 x H3 _ s2 r2.mem gc (List.getElem?_eq_getElem hlt) y
        have r3 : Rl T H0 (wipe σ (own.map (·.2))) H3 (wipeD δ (own.map (·.2))) M2 := ⟨r2.base.trans y1, (r2.env.stb y1).wipe _, y2⟩
        refine ⟨_, _, M2, _, r3, y3, g, fun σ4 δ4 r4 sb4 q4 => ⟨?_, ?_⟩⟩
        · have := sb4 (own.map (·.2)) hsl
          rw [this]
          refine List.ext_getElem? fun j => ?_
          rw [wipe_get, wipe_get, wipe_length]
          by_cases e : j ∈ own.map (·.2)
          · rw [if_pos e, if_pos e]
          · rw [if_neg e]
        · refine ⟨δ4, M2, _, r4, q4, fun b H5 M5 r5 s5 q5 => ?_⟩
          have back : ∀ {σ' : L2.St} {δ' : Ev} {H' : Hp} {M' : Mem}, Rl T H0 σ' H' δ' M' → Stb H3 H' → Rl T H0 σ H' δ M' := fun r s => ⟨r.base, r2.env.stb (y1.trans s), r.mem⟩
          cases b with
          | false =>
            refine iteF ⟨acc, M5, back r5 s5, (s2.trans y1).trans s5, ?_⟩
            simpa using q5
          | true =>
            refine iteT ⟨δ4, M5, _, r5, by simpa using q5, fun y H6 d M6 r6 s6 d6 q6 => ?_⟩
            obtain ⟨e6, l6, g6⟩ := q6
            obtain ⟨vs, h6, rv⟩ := r6.mem D _ e6
            have st : Stb H6 (upd H6 D (.lst (vs ++ [y]))) := Stb.wr (by rw [h6]; exact trivial)
            refine ⟨vs, h6, by rw [rv.length]; exact l6, acc ++ [d], _, ?_, ((s2.trans y1).trans s5).trans (s6.trans st), g6⟩
            exact (back r6 (s5.trans s6)).to st (r6.mem.put (m := .lst (acc ++ [d])) st ⟨_, upd_same, (rv.append (.cons d6 .nil)).stb st⟩)
    · have e : i = ds.length := by omega
      subst e
      rw [List.drop_length] at g
      obtain ⟨gc, ge, gq⟩ := g
      refine .inl ⟨ok1.stop H2 M2 s2 r2.mem gc, lock_old r2.mem ge fun v H' s m dd => ?_⟩
      exact kk _ _ _ _ (r2.to s m) ((s1.trans s2).trans s) dd gq⟩
end
end DL
namespace DL
open PySem PySem.Spec PyProof.Rows L2
/-! ### calls of the text's own defs -/
/-- the def at f may be called with the arguments that φ takes -/
structure Callee (X : Cx) (T : Tx) (f : Addr) (φ : DSp) : Prop where
  ex : ∃ (k : Nat) (fd : FuncData) (ps : List Str) (us : List Value) (dvs : List V) (dd : List D) (φ0 : DSp), FnOk X.prog X.w X.K X.mg X.base (L2.CX X.prog X.w) k f fd ps (liftSp T ps.length φ0) ∧ Room k X.A ∧ Binds X.K fd ps us ∧ Vals dvs us ∧
    (∀ H, DenL T H dvs dd) ∧ (∀ l M Q E, φ l M Q E → l.length + dvs.length = ps.length) ∧ ∀ l M Q E, φ l M Q E → φ0 (l ++ dd) M Q E
  kp : PySem.W.keepIn X.K (.ref f) = true
section
variable {X : Cx} {T : Tx} {H0 : Hp} {W : WD} {f : Addr} {φ : DSp} {x : Str} {p pos : Pos} {e : Expr} {es : List Expr} {wr : WpA}
theorem run_D {pins : List (Addr × Obj)} {σ : L2.St} {H : Hp} {s : Shared} {us : List Value} {vs : List V} {ds : List D} {δ : Ev} {M : Mem} {Q : QD} {k : VK} (C : Callee X T f φ) (tk : Takes X (liftW T H0 W)) (I : Inv X pins σ H s) (r : Vals vs us)
    (rl : Rl T H0 σ H δ M) (rd : DenL T H vs ds) (h : φ ds M Q fun x fs M' => W x fs δ M') (kk : ∀ v H' d M', Rl T H0 σ H' δ M' → Stb H H' → Den T H' v d → Q d M' → k v H') :
    wpAny (model X.prog X.w) X.A (call (.ref f) us) (EP X pins σ k) X.xe s := by
  obtain ⟨lv, fd, ps, usd, dvs, dd, φ0, F, hr, hb, hd, hdd, hl, hi⟩ := C.ex
  refine run_fnSD (E := WE (liftW T H0 W)) F hr hb hd (passAt tk σ) I r ⟨ds ++ dd, M, Q, fun x fs M' => W x fs δ M', ?_, rd.append (hdd H), rl.mem, hi _ _ _ _ h, fun v H' d M' s m dd q => kk v H' d M' (rl.to s m) s dd q, fun j d fs H' M' s m ex q => ⟨j, fs, δ, M', rfl, ex, rl.to s m, q⟩⟩
  rw [List.length_append, rd.length]
  exact hl _ _ _ _ h
theorem de_call (C : Callee X T f φ) (tk : Takes X (liftW T H0 W)) (hg : Gl X x) (hm : X.mg x = some (.ref f)) (hdb : (x == ("__debug__" : Str)) = false) (hs : notStar e = true) (hss : noStars es = true) (ha : PA X (e :: es) (liftA T H0 wr)) :
    PE X (.Call (.Name x p) (e :: es) [] pos) (liftE T H0 fun δ M Q => wr δ M fun ds M1 => φ ds M1 Q fun x fs M' => W x fs δ M') := by
  refine ⟨fun pins s σ H k I h => ?_⟩
  obtain ⟨δ, M, Q, rl, hw, kk⟩ := h
  refine wpAny_Call_Name_kw (ld_glob I hg hm ?_ hdb)
  refine PySem.W.callWith_K (h₀ := X.base) I.ok.mod.kin C.kp (thn (ha.run pos pins s σ H (fun vs H1 => ∃ ds M1, Rl T H0 σ H1 δ M1 ∧ Stb H H1 ∧ DenL T H1 vs ds ∧ φ ds M1 Q fun x fs M' => W x fs δ M') I ⟨δ, M, _, rl, hw, fun vs H1 ds M1 r1 s1 d1 q1 => ⟨ds, M1, r1, s1, d1, q1⟩⟩) fun us s1 ⟨vs, H1, I1, r, ds, M1, r1, s1, d1, q1⟩ => ⟨I1.kIn, ?_⟩) (star_ok hs) (stars_ok hss)
  exact run_D C tk I1 r r1 d1 q1 fun v H' d M' r2 s2 d2 q2 => kk v H' d M' r2 (s1.trans s2) d2 q2
theorem de_call0 (C : Callee X T f φ) (tk : Takes X (liftW T H0 W)) (hg : Gl X x) (hm : X.mg x = some (.ref f)) (hdb : (x == ("__debug__" : Str)) = false) :
    PE X (.Call (.Name x p) [] [] pos) (liftE T H0 fun δ M Q => φ [] M Q fun x fs M' => W x fs δ M') := by
  refine ⟨fun pins s σ H k I h => ?_⟩
  obtain ⟨δ, M, Q, rl, hw, kk⟩ := h
  refine wpAny_Call_Name_kw (ld_glob I hg hm ?_ hdb)
  exact PySem.W.callWith_K0 I.kIn C.kp (run_D (us := []) C tk I .nil rl .nil hw kk)
/-- f(e, ..), the slot i holds one of the text's defs -/
theorem de_calv {Γ : List DSp} {i : Nat} (C : ∀ j φ, Γ[j]? = some φ → Callee X T (T.fA j) φ) (tk : Takes X (liftW T H0 W)) (hN : X.N[i]? = some x) (hv : Vis X.env.scope x) (hdb : (x == ("__debug__" : Str)) = false) (hcd : (x == ("__classdict__" : Str)) = false) (hs : notStar e = true) (hss : noStars es = true) (ha : PA X (e :: es) (liftA T H0 wr)) :
    PE X (.Call (.Name x p) (e :: es) [] pos) (liftE T H0 fun δ M Q => opt δ[i]? fun o => opt o fun f => opt (fnOf f) fun j => opt Γ[j]? fun φ => wr δ M fun ds M1 => φ ds M1 Q fun x fs M' => W x fs δ M') := by
  refine ⟨fun pins s σ H k I h => ?_⟩
  obtain ⟨δ, M, Q, rl, hw, kk⟩ := h
  obtain ⟨o, e1, hw⟩ := ofOpt hw
  obtain ⟨d, rfl, hw⟩ := ofOpt hw
  obtain ⟨j, e2, hw⟩ := ofOpt (show opt (fnOf d) fun j => opt Γ[j]? fun φ => wr δ M fun ds M1 => φ ds M1 Q fun x fs M' => W x fs δ M' from hw)
  obtain ⟨φ, e3, hw⟩ := ofOpt (show opt Γ[j]? fun φ => wr δ M fun ds M1 => φ ds M1 Q fun x fs M' => W x fs δ M' from hw)
  have CC := C j φ e3
  obtain ⟨v, e4, hd⟩ := rl.env.get i d e1
  have e5 : v = .ref (T.fA j) := by
    cases hd with
    | fn j' => cases e2; rfl
    | _ => exact absurd e2 (fun z => nomatch z)
  subst e5
  refine wpAny_Call_Name_kw (thn ((pe_var (pos := p) hN hv hdb hcd).run pins s σ H (fun v H1 => v = .ref (T.fA j) ∧ H1 = H) I ⟨_, e4, rfl, rfl⟩) fun u s1 ⟨v, H1, I1, r1, q1⟩ => ?_)
  obtain ⟨rfl, rfl⟩ := q1
  cases r1
  refine PySem.W.callWith_K (h₀ := X.base) I.ok.mod.kin CC.kp (thn (ha.run pos pins s1 σ _ (fun vs H1' => ∃ ds M1, Rl T H0 σ H1' δ M1 ∧ Stb H1 H1' ∧ DenL T H1' vs ds ∧ φ ds M1 Q fun x fs M' => W x fs δ M') I1 ⟨δ, M, _, rl, hw, fun vs H1 ds M1 r1 s1 d1 q1 => ⟨ds, M1, r1, s1, d1, q1⟩⟩) fun us s2 ⟨vs, H2, I2, r, ds, M1, r1, s1, d1, q1⟩ => ⟨I2.kIn, ?_⟩) (star_ok hs) (stars_ok hss)
  exact run_D CC tk I2 r r1 d1 q1 fun v H' d M' r2 s2 d2 q2 => kk v H' d M' r2 (s1.trans s2) d2 q2
end
/-! ### calls of built-ins, of methods of built-in types -/
section
variable {X : Cx} {T : Tx} {H0 : Hp} {x : Str} {p pos apos : Pos} {a b e : Expr} {es : List Expr} {wa wb : WpE} {wr : WpA}
theorem de_blt {bi : Bi} (hT : X.K = T.K) (hc : X.calm = true) (hg : Gl X x) (hm : X.mg x = none) (hx : x = bi.nm) (hs : notStar e = true) (hss : noStars es = true) (ha : PA X (e :: es) (liftA T H0 wr)) :
    PE X (.Call (.Name x p) (e :: es) [] pos) (liftE T H0 fun δ M Q => wr δ M fun ds M1 => wBlt bi ds M1 Q) := by
  have hn : x ≠ "__name__" := by rw [hx]; cases bi <;> decide +kernel
  have hdb : (x == ("__debug__" : Str)) = false := by rw [hx]; cases bi <;> decide +kernel
  have hv : bootBuiltins x = some bi.val := by rw [hx]; exact bi.boot
  have fin : ∀ {σ : L2.St} {H : Hp} {k : VK}, liftE T H0 (fun δ M Q => wr δ M fun ds M1 => wBlt bi ds M1 Q) σ H k → tCB (rLD T (wBlt bi)) (liftA T H0 wr) σ H k := fun {σ H k} ⟨δ, M, Q, rl, hw, kk⟩ =>
    ⟨δ, M, _, rl, hw, fun vs H1 ds M1 r1 s1 d1 q1 => ⟨ds, M1, Q, d1, r1.mem, q1, fun v H' d M' s m dd q => kk v H' d M' (r1.to s m) (s1.trans s) dd q⟩⟩
  have R := call_bi (X := X) (T := T) hT hc bi
  have ty : (∃ id, bi.val = .builtin id) ∨ ∃ t, bi.val = .type t := by cases bi <;> first | exact .inl ⟨_, rfl⟩ | exact .inr ⟨_, rfl⟩
  rcases ty with ⟨id, e⟩ | ⟨id, e⟩
  · rw [e] at R hv
    exact (pe_callB R hg hm hv ha hn hdb (star_ok hs) (stars_ok hss)).weak fun _ _ _ h => fin h
  · rw [e] at R hv
    exact (pe_callTy R hg hm hv ha hn hdb (star_ok hs) (stars_ok hss)).weak fun _ _ _ h => fin h
theorem de_app (hT : X.K = T.K) (hca : notCall a = true) (hs : notStar b = true) (hl : (apos.endLine == pos.line) = true) (ha : PE X a (liftE T H0 wa)) (hb : PE X b (liftE T H0 wb)) :
    PE X (.Call (.Attribute a "append" apos) [b] [] pos) (liftE T H0 fun δ M Q => wa δ M fun x M1 => opt (lsM M1 x) fun _ => wb δ M1 fun y M2 => wApp x y M2 Q) :=
  (pe_bm PySem.F.plainAttrs_list PySem.F.slot_list_append PySem.F.type_list_append mt_append ha (pa_cons hb pa_nil (star_ok hs)) (base_ok hca) (by rw [star_ok hs] <;> rfl) hl (star_ok hs) rfl).weak fun σ H k ⟨δ, M, Q, rl, hw, kk⟩ =>
    ⟨δ, M, _, rl, hw, fun v H1 d M1 r1 s1 d1 q1 => by
      obtain ⟨ls, e1, q1⟩ := ofOpt q1
      obtain ⟨p, vs, rfl, hq, r⟩ := lsM_ok r1.mem d1 e1
      refine ⟨.inl ⟨rfl, vs, by rw [hT]; exact hq⟩, δ, M1, _, r1, q1, fun u H2 e M2 r2 s2 d2 q2 => ?_⟩
      cases d with
      | ref p' =>
        cases d1
        obtain ⟨o, e2, q2⟩ := ofOpt (show opt (M2 p) fun o => match o with
          | .lst ds => ds.length < sizeLine ∧ Q .non (M2.put p (.lst (ds ++ [e])))
          | .ins _ _ => False from q2)
        cases o with
        | lst ds =>
          obtain ⟨q3, q4⟩ := q2
          obtain ⟨ws, h2, r3⟩ := r2.mem p _ e2
          have st : Stb H2 (upd H2 p (.lst (ws ++ [u]))) := Stb.wr (by rw [h2]; exact trivial)
          refine ⟨p, ws, u, rfl, rfl, h2, by rw [r3.length]; exact q3, ?_⟩
          exact kk _ _ _ _ (r2.to st (r2.mem.put (m := .lst (ds ++ [e])) st ⟨_, upd_same, (r3.append (.cons d2 .nil)).stb st⟩)) ((s1.trans s2).trans st) .non q4
        | ins c fs => exact (show False from q2).elim
      | _ => exact (show False from q2).elim⟩
theorem de_bits (hca : notCall a = true) (hl : (apos.endLine == pos.line) = true) (ha : PE X a (liftE T H0 wa)) :
    PE X (.Call (.Attribute a "bit_length" apos) [] [] pos) (liftE T H0 fun δ M Q => wa δ M fun x M1 => wBits x M1 Q) :=
  (pe_bits ha (base_ok hca) hl).weak fun σ H k ⟨δ, M, Q, rl, hw, kk⟩ =>
    ⟨δ, M, _, rl, hw, fun v H1 d M1 r1 s1 d1 q1 => by
      cases d1 with
      | int i => exact ⟨i, rfl, kk _ _ _ _ r1 s1 (.int _) q1⟩
      | _ => exact (show False from q1).elim⟩
end
end DL
namespace DL
open PySem PySem.Spec PyProof.Rows L2
mutual
inductive Sr where
  | pas
  | brk
  | cnt
  | set (i : Nat) (e : Ir)
  | asg (t : Tg) (e : Ir)
  | par (i j : Nat) (a b : Ir)
  | par3 (i j l : Nat) (a b c : Ir)
  | sub (o i e : Ir)
  | aug (i : Nat) (op : Operator) (e : Ir)
  | drp (e : Ir)
  | ret (e : Ir)
  | retN
  | ite (c : Ir) (a b : Srs)
  | whl (c : Ir) (b : Srs)
  | for_ (t : Tg) (it : It) (b : Srs)
  | rse (x : Nat)
  | try1 (b : Srs) (x : Nat) (h : Srs)
inductive Srs where
  | nil
  | cons (s : Sr) (r : Srs)
end
def wSub (o i d : D) (M : Mem) (k : Mem → Prop) : Prop := match o, i with
  | .ref p, .int n => opt (M p) fun u => match u with
    | .lst ds => opt (ixN ds.length n) fun j => k (M.put p (.lst (ds.set j d)))
    | .ins _ _ => False
  | _, _ => False
def wAug (op : Operator) (x y : D) (M : Mem) (Q : QD) : Prop := match op, x, y with
  | .Add, .int i, .int j => Q (.int (i + j)) M
  | .Add, .str a, .str b => a.length + b.length ≤ sizeLine ∧ Q (.str (a ++ b)) M
  | .Sub, .int i, .int j => Q (.int (i - j)) M
  | .Mult, .int i, .int j => IntMulOk i j ∧ Q (.int (i * j)) M
  | .FloorDiv, .int i, .int j => CDv i j ∧ Q (.int (i.fdiv j)) M
  | .Mod, .int i, .int j => j ≠ 0 ∧ Q (.int (i.fmod j)) M
  | .LShift, .int i, .int j => CShl i j ∧ Q (.int (i * 2 ^ j.toNat)) M
  | _, _, _ => False
def whlGo (c : WpT) (b : WpS) (Dn : En) (δ : Ev) (M : Mem) : Prop := ∃ Z : Nat → Ev → Mem → Prop, (∃ n, Z n δ M) ∧ ∀ n δ M, Z n δ M → c δ M fun t M1 =>
  if t = true then b { nx := fun δ' M' => ∃ n', n' < n ∧ Z n' δ' M', ct := fun δ' M' => ∃ n', n' < n ∧ Z n' δ' M', bk := Dn.nx, rt := Dn.rt } δ M1 else Dn.nx δ M1
def forGo (st : D → WpS) (ch : Mem → Prop) (Dn : En) : List D → Ev → Mem → Prop
  | [], δ, M => ch M ∧ Dn.nx δ M
  | d :: ds, δ, M => ch M ∧ st d { nx := forGo st ch Dn ds, ct := forGo st ch Dn ds, bk := Dn.nx, rt := Dn.rt } δ M
mutual
def dS (Γ : List DSp) (xm : Nat → Nat → Option Bool) : Sr → WD → WpS
  | .pas, _, E, δ, M => E.nx δ M
  | .brk, _, E, δ, M => E.bk δ M
  | .cnt, _, E, δ, M => E.ct δ M
  | .set i e, W, E, δ, M => dE Γ e W δ M fun d M1 => E.nx (δ.set i (some d)) M1
  | .asg t e, W, E, δ, M => dE Γ e W δ M fun d M1 => wTg t d M1 δ fun δ1 => E.nx δ1 M1
  | .par i j a b, W, E, δ, M => dE Γ a W δ M fun x M1 => dE Γ b W δ M1 fun y M2 => E.nx ((δ.set i (some x)).set j (some y)) M2
  | .par3 i j l a b c, W, E, δ, M => dE Γ a W δ M fun x M1 => dE Γ b W δ M1 fun y M2 => dE Γ c W δ M2 fun z M3 => E.nx (((δ.set i (some x)).set j (some y)).set l (some z)) M3
  | .sub o i e, W, E, δ, M => dE Γ e W δ M fun d M1 => dE Γ o W δ M1 fun x M2 => dE Γ i W δ M2 fun y M3 => wSub x y d M3 fun M4 => E.nx δ M4
  | .aug i op e, W, E, δ, M => opt δ[i]? fun o => opt o fun x => dE Γ e W δ M fun y M1 => wAug op x y M1 fun z M2 => E.nx (δ.set i (some z)) M2
  | .drp e, W, E, δ, M => dE Γ e W δ M fun _ M1 => E.nx δ M1
  | .ret e, W, E, δ, M => dE Γ e W δ M fun d M1 => E.rt d M1
  | .retN, _, E, _, M => E.rt .non M
  | .ite c a b, W, E, δ, M => dT Γ c W δ M fun k M1 => if k = true then dSs Γ xm a W E δ M1 else dSs Γ xm b W E δ M1
  | .whl c b, W, E, δ, M => whlGo (fun δ M Q => dT Γ c W δ M Q) (fun E δ M => dSs Γ xm b W E δ M) E δ M
  | .for_ t it b, W, E, δ, M => dI Γ it W δ M fun ds ch M1 => forGo (fun d E δ M => wTg t d M δ fun δ1 => dSs Γ xm b W E δ1 M) ch E ds δ M1
  | .rse x, W, _, δ, M => W x [] δ M
  | .try1 b x h, W, E, δ, M => dSs Γ xm b (fun j fs δ' M' => opt (xm j x) fun k => if k = true then dSs Γ xm h W0 E δ' M' else W j fs δ' M') E δ M
def dSs (Γ : List DSp) (xm : Nat → Nat → Option Bool) : Srs → WD → WpS
  | .nil, _, E, δ, M => E.nx δ M
  | .cons s r, W, E, δ, M => dS Γ xm s W { nx := fun δ' M' => dSs Γ xm r W E δ' M', rt := E.rt, bk := E.bk, ct := E.ct } δ M
end
/-! ### rules of statements -/
section
variable {X : Cx} {T : Tx} {H0 : Hp} {a b c e o i : Expr} {wa wb wc we : WpE} {pos pos' : Pos}
theorem dss_nil : PSs X [] (liftS T H0 fun E δ M => E.nx δ M) := pss_nil.weak fun D σ H ⟨δ, M, E, rl, hw, kn, _, _, _⟩ => kn σ H δ M rl (Stb.refl _) hw
theorem dss_cons {st : Stmt} {rest : List Stmt} {w r : WpS} (h1 : PS X st (liftS T H0 w)) (h2 : PSs X rest (liftS T H0 r)) :
    PSs X (st :: rest) (liftS T H0 fun E δ M => w { nx := fun δ' M' => r E δ' M', rt := E.rt, bk := E.bk, ct := E.ct } δ M) :=
  (pss_cons h1 h2).weak fun D σ H ⟨δ, M, E, rl, hw, kn, kr, kb, kc⟩ => ⟨δ, M, _, rl, hw, fun σ' H' δ' M' r1 s1 q1 =>
    ⟨δ', M', E, r1, q1, fun σ2 H2 δ2 M2 r2 s2 q2 => kn _ _ _ _ r2 (s1.trans s2) q2, fun v H2 d M2 b2 s2 m2 d2 q2 => kr _ _ _ _ b2 (s1.trans s2) m2 d2 q2, fun σ2 H2 δ2 M2 r2 s2 q2 => kb _ _ _ _ r2 (s1.trans s2) q2, fun σ2 H2 δ2 M2 r2 s2 q2 => kc _ _ _ _ r2 (s1.trans s2) q2⟩, kr, kb, kc⟩
theorem ds_pas : PS X (.Pass pos) (liftS T H0 fun E δ M => E.nx δ M) := ps_pass.weak fun D σ H ⟨δ, M, E, rl, hw, kn, _, _, _⟩ => kn σ H δ M rl (Stb.refl _) hw
theorem ds_brk : PS X (.Break pos) (liftS T H0 fun E δ M => E.bk δ M) := ps_break.weak fun D σ H ⟨δ, M, E, rl, hw, _, _, kb, _⟩ => kb σ H δ M rl (Stb.refl _) hw
theorem ds_cnt : PS X (.Continue pos) (liftS T H0 fun E δ M => E.ct δ M) := ps_continue.weak fun D σ H ⟨δ, M, E, rl, hw, _, _, _, kc⟩ => kc σ H δ M rl (Stb.refl _) hw
theorem ds_set {i : Nat} {x : Str} (hN : X.N.Nodup) (hi : X.N[i]? = some x) (hx : Loc X.env.scope x) (he : PE X e (liftE T H0 we)) (hs : swapsWith e (some (.Name x pos')) pos.line X.env = pure false) (hf : X.fn x = true ∨ X.env.scope.names.lookup x = some .local) :
    PS X (.Assign [.Name x pos'] e pos) (liftS T H0 fun E δ M => we δ M fun d M1 => E.nx (δ.set i (some d)) M1) :=
  (ps_set hN hi hx he hs hf).weak fun D σ H ⟨δ, M, E, rl, hw, kn, _, _, _⟩ => ⟨δ, M, _, rl, hw, fun v H1 d M1 r1 s1 d1 q1 => kn _ _ _ _ ⟨r1.base, r1.env.set d1 i, r1.mem⟩ s1 q1⟩
theorem ds_asg {tg : Expr} {t : Tg} (he : PE X e (liftE T H0 we)) (hg : PG X tg (liftG T H0 t)) (hs : swapsWithSole [tg] e pos.line X.env = pure false) (hw : swappedStores [tg] e X.env = pure none) (h1 : (assignEach [tg] X.env).map (·.2) = [assign tg X.env]) :
    PS X (.Assign [tg] e pos) (liftS T H0 fun E δ M => we δ M fun d M1 => wTg t d M1 δ fun δ1 => E.nx δ1 M1) :=
  (ps_asg he hg hs hw h1).weak fun D σ H ⟨δ, M, E, rl, hw, kn, _, _, _⟩ => ⟨δ, M, _, rl, hw, fun v H1 d M1 r1 s1 d1 q1 => ⟨d, δ, M1, _, r1, d1, q1, fun σ' δ' r2 _ q2 => kn _ _ _ _ r2 s1 q2⟩⟩
theorem ds_par {i j : Nat} {x y : Str} {px py pt : Pos} {kt k2 pt2} (hc : X.calm = true) (hN : X.N.Nodup) (hi : X.N[i]? = some x) (hj : X.N[j]? = some y) (hij : i ≠ j)
    (hx : X.env.scope.names.lookup x = some .local) (hy : X.env.scope.names.lookup y = some .local) (ha : PE X a (liftE T H0 wa)) (hb : PE X b (liftE T H0 wb)) (sa : notStar a = true) (sb : notStar b = true)
    (hw : swappedStores [.Tuple [.Name x px, .Name y py] kt pt] (.Tuple [a, b] k2 pt2) X.env = pure (some [x, y])) :
    PS X (.Assign [.Tuple [.Name x px, .Name y py] kt pt] (.Tuple [a, b] k2 pt2) pos) (liftS T H0 fun E δ M => wa δ M fun x M1 => wb δ M1 fun y M2 => E.nx ((δ.set i (some x)).set j (some y)) M2) :=
  (ps_par hc hN hi hj hij hx hy (pa_cons ha (pa_cons hb pa_nil (star_ok sb)) (star_ok sa)) hw).weak fun D σ H ⟨δ, M, E, rl, hw, kn, _, _, _⟩ => ⟨δ, M, _, rl, hw, fun v H1 d M1 r1 s1 d1 q1 => ⟨δ, M1, _, r1, q1, fun u H2 f M2 r2 s2 d2 q2 =>
    ⟨v, u, rfl, kn _ _ _ _ ⟨r2.base, (r2.env.set (d1.stb s2) i).set d2 j, r2.mem⟩ (s1.trans s2) q2⟩⟩⟩
theorem ds_par3 {i j l : Nat} {x y z : Str} {px py pz pt : Pos} {kt k2 pt2} (hc : X.calm = true) (hN : X.N.Nodup) (hi : X.N[i]? = some x) (hj : X.N[j]? = some y) (hl : X.N[l]? = some z) (hij : i ≠ j) (hil : i ≠ l) (hjl : j ≠ l)
    (hx : X.env.scope.names.lookup x = some .local) (hy : X.env.scope.names.lookup y = some .local) (hz : X.env.scope.names.lookup z = some .local) (ha : PE X a (liftE T H0 wa)) (hb : PE X b (liftE T H0 wb)) (hcc : PE X c (liftE T H0 wc)) (sa : notStar a = true) (sb : notStar b = true) (sc : notStar c = true)
    (hw : swappedStores [.Tuple [.Name x px, .Name y py, .Name z pz] kt pt] (.Tuple [a, b, c] k2 pt2) X.env = pure (some [x, y, z])) :
    PS X (.Assign [.Tuple [.Name x px, .Name y py, .Name z pz] kt pt] (.Tuple [a, b, c] k2 pt2) pos) (liftS T H0 fun E δ M => wa δ M fun x M1 => wb δ M1 fun y M2 => wc δ M2 fun z M3 => E.nx (((δ.set i (some x)).set j (some y)).set l (some z)) M3) :=
  (ps_par3 hc hN hi hj hl hij hil hjl hx hy hz (pa_cons ha (pa_cons hb (pa_cons hcc pa_nil (star_ok sc)) (star_ok sb)) (star_ok sa)) hw).weak fun D σ H ⟨δ, M, E, rl, hw, kn, _, _, _⟩ => ⟨δ, M, _, rl, hw, fun v H1 d M1 r1 s1 d1 q1 => ⟨δ, M1, _, r1, q1, fun u H2 f M2 r2 s2 d2 q2 => ⟨δ, M2, _, r2, q2, fun w H3 g M3 r3 s3 d3 q3 =>
    ⟨v, u, w, rfl, kn _ _ _ _ ⟨r3.base, (((r3.env.set ((d1.stb s2).stb s3) i).set (d2.stb s3) j).set d3 l), r3.mem⟩ ((s1.trans s2).trans s3) q3⟩⟩⟩⟩
theorem ds_sub {wo wi : WpE} (ho : PE X o (liftE T H0 wo)) (hi : PE X i (liftE T H0 wi)) (he : PE X e (liftE T H0 we)) (hs : swapsWithSole [.Subscript o i pos'] e pos.line X.env = pure false) (hw : swappedStores [.Subscript o i pos'] e X.env = pure none) (h1 : (assignEach [.Subscript o i pos'] X.env).map (·.2) = [assign (.Subscript o i pos') X.env])
    (hsub : ∀ v, assign (.Subscript o i pos') X.env v = (do
      let ov ← holding [v] (eval o X.env)
      let iv ← holding [v, ov] (eval i X.env)
      standAt pos'
      holding [v, ov, iv] (setItem ov iv v)
      release [v, ov, iv] [])) :
    PS X (.Assign [.Subscript o i pos'] e pos) (liftS T H0 fun E δ M => we δ M fun d M1 => wo δ M1 fun x M2 => wi δ M2 fun y M3 => wSub x y d M3 fun M4 => E.nx δ M4) :=
  (ps_asg he (pg_sub ho hi set_list hsub) hs hw h1).weak fun D σ H ⟨δ, M, E, rl, hw, kn, _, _, _⟩ => ⟨δ, M, _, rl, hw, fun v H1 d M1 r1 s1 d1 q1 => ⟨δ, M1, _, r1, q1, fun u H2 f M2 r2 s2 d2 q2 => ⟨δ, M2, _, r2, q2, fun w H3 g M3 r3 s3 d3 q3 => by
    cases d2 with
    | ref p => cases d3 with
      | int n =>
        obtain ⟨o, e2, q⟩ := ofOpt (show opt (M3 p) fun u => match u with
          | .lst ds => opt (ixN ds.length n) fun j => E.nx δ (M3.put p (.lst (ds.set j d)))
          | .ins _ _ => False from q3)
        cases o with
        | lst ds =>
          obtain ⟨j, e3, q⟩ := ofOpt (show opt (ixN ds.length n) fun j => E.nx δ (M3.put p (.lst (ds.set j d))) from q)
          obtain ⟨vs, h3, r⟩ := r3.mem p _ e2
          have st : Stb H3 (upd H3 p (.lst (vs.set j v))) := Stb.wr (by rw [h3]; exact trivial)
          refine ⟨p, vs, n, j, rfl, rfl, h3, by rw [r.length]; exact e3, ?_⟩
          exact kn _ _ _ _ (r3.to st (r3.mem.put (m := .lst (ds.set j d)) st ⟨_, upd_same, (DenL.set ((d1.stb s2).stb s3) j r).stb st⟩)) (((s1.trans s2).trans s3).trans st) q
        | ins c fs => exact (show False from q).elim
      | _ => exact (show False from q3).elim
    | _ => exact (show False from q3).elim⟩⟩⟩
theorem iop_fdivD : OpR X (inplaceOp .FloorDiv) (rI CDv fun i j => .int (i.fdiv j)) := opI fun _ _ _ _ _ _ _ hc q => ifloordiv_int hc.1 q (.inl hc.2)
theorem iop_mulD : OpR X (inplaceOp .Mult) (rI IntMulOk fun i j => .int (i * j)) := opI fun _ _ _ _ _ _ _ hc q => imul_int q hc
theorem iop_modD : OpR X (inplaceOp .Mod) (rI (fun _ j => j ≠ 0) fun i j => .int (i.fmod j)) := opI fun _ _ _ _ _ _ _ hc q => imod_int hc q
theorem ip_D (op : Operator) : PIp X op (rD T (wAug op)) := by
  intro pins s σ H x y v u Q I rx ry ⟨dx, dy, M, QQ, hx, hy, hm, hw, kk⟩
  have fin : ∀ {w : V} {d : D}, Den T H w d → QQ d M → Q w H := fun hd q => kk _ _ _ _ (Stb.refl _) hm hd q
  cases op with
  | Add =>
    cases hx with
    | int i => cases hy with
      | int j => exact iop_add pins s σ H _ _ v u Q I rx ry ⟨i, j, rfl, rfl, fin (.int _) hw⟩
      | _ => exact hw.elim
    | str a ha => cases hy with
      | str b hb => exact iop_add_str pins s σ H _ _ v u Q I rx ry ⟨a, b, rfl, rfl, hw.1, fin (.str _ (by rw [Str.length_append]; exact hw.1)) hw.2⟩
      | _ => exact hw.elim
    | _ => exact (show False from hw).elim
  | Sub =>
    cases hx with
    | int i => cases hy with
      | int j => exact iop_sub pins s σ H _ _ v u Q I rx ry ⟨i, j, rfl, rfl, fin (.int _) hw⟩
      | _ => exact hw.elim
    | _ => exact (show False from hw).elim
  | Mult =>
    cases hx with
    | int i => cases hy with
      | int j => exact iop_mulD pins s σ H _ _ v u Q I rx ry ⟨i, j, rfl, rfl, hw.1, fin (.int _) hw.2⟩
      | _ => exact hw.elim
    | _ => exact (show False from hw).elim
  | FloorDiv =>
    cases hx with
    | int i => cases hy with
      | int j => exact iop_fdivD pins s σ H _ _ v u Q I rx ry ⟨i, j, rfl, rfl, hw.1, fin (.int _) hw.2⟩
      | _ => exact hw.elim
    | _ => exact (show False from hw).elim
  | Mod =>
    cases hx with
    | int i => cases hy with
      | int j => exact iop_modD pins s σ H _ _ v u Q I rx ry ⟨i, j, rfl, rfl, hw.1, fin (.int _) hw.2⟩
      | _ => exact hw.elim
    | _ => exact (show False from hw).elim
  | LShift =>
    cases hx with
    | int i => cases hy with
      | int j => exact iop_shlW pins s σ H _ _ v u Q I rx ry ⟨i, j, rfl, rfl, hw.1, fin (.int _) hw.2⟩
      | _ => exact hw.elim
    | _ => exact (show False from hw).elim
  | _ => exact (show False from hw).elim
theorem ds_aug {i : Nat} {x : Str} {op : Operator} (hN : X.N.Nodup) (hi : X.N[i]? = some x) (hx : Loc X.env.scope x) (he : PE X e (liftE T H0 we)) (hf : X.fn x = true ∨ X.env.scope.names.lookup x = some .local) :
    PS X (.AugAssign (.Name x pos') op e pos) (liftS T H0 fun E δ M => opt δ[i]? fun o => opt o fun x => we δ M fun y M1 => wAug op x y M1 fun z M2 => E.nx (δ.set i (some z)) M2) :=
  (ps_aug hN hi hx he (ip_D (T := T) op) hf).weak fun D σ H ⟨δ, M, E, rl, hw, kn, _, _, _⟩ => by
    obtain ⟨o, e1, hw⟩ := ofOpt hw
    obtain ⟨d0, rfl, hw⟩ := ofOpt hw
    obtain ⟨v0, e2, hd⟩ := rl.env.get i d0 e1
    exact ⟨v0, e2, δ, M, _, rl, hw, fun v H1 d M1 r1 s1 d1 q1 => ⟨d0, d, M1, _, hd.stb s1, d1, r1.mem, q1, fun w H' f M' s m dd q => kn _ _ _ _ ⟨r1.base.trans s, (r1.env.stb s).set dd i, m⟩ (s1.trans s) q⟩⟩
theorem ds_drp (he : PE X e (liftE T H0 we)) (hs : swapsWith e none pos.line X.env = pure false) : PS X (.Expr e pos) (liftS T H0 fun E δ M => we δ M fun _ M1 => E.nx δ M1) :=
  (ps_expr he hs).weak fun D σ H ⟨δ, M, E, rl, hw, kn, _, _, _⟩ => ⟨δ, M, _, rl, hw, fun v H1 d M1 r1 s1 d1 q1 => kn _ _ _ _ r1 s1 q1⟩
theorem ds_ret (he : PE X e (liftE T H0 we)) : PS X (.Return (some e) pos) (liftS T H0 fun E δ M => we δ M fun d M1 => E.rt d M1) :=
  (ps_ret he).weak fun D σ H ⟨δ, M, E, rl, hw, _, kr, _, _⟩ => ⟨δ, M, _, rl, hw, fun v H1 d M1 r1 s1 d1 q1 => kr _ _ _ _ r1.base s1 r1.mem d1 q1⟩
theorem ds_retN : PS X (.Return none pos) (liftS T H0 fun E _ M => E.rt .non M) :=
  ps_retN.weak fun D σ H ⟨δ, M, E, rl, hw, _, kr, _, _⟩ => kr _ _ _ _ rl.base (Stb.refl _) rl.mem .non hw
theorem ds_ite {ta : WpT} {sa sb : List Stmt} {wsa wsb : WpS} (ht : PT X c (liftT T H0 ta)) (ha : PSs X sa (liftS T H0 wsa)) (hb : PSs X sb (liftS T H0 wsb)) : PS X (.If c sa sb pos) (liftS T H0 fun E δ M => ta δ M fun k M1 => if k = true then wsa E δ M1 else wsb E δ M1) :=
  (ps_if ht ha hb).weak fun D σ H ⟨δ, M, E, rl, hw, kn, kr, kb, kc⟩ => ⟨δ, M, _, rl, hw, fun b H1 M1 r1 s1 q1 => by
    have post : ∀ {w : WpS}, w E δ M1 → liftS T H0 w D σ H1 := fun q => ⟨δ, M1, E, r1, q, fun σ2 H2 δ2 M2 r2 s2 q2 => kn _ _ _ _ r2 (s1.trans s2) q2, fun v H2 d M2 b2 s2 m2 d2 q2 => kr _ _ _ _ b2 (s1.trans s2) m2 d2 q2, fun σ2 H2 δ2 M2 r2 s2 q2 => kb _ _ _ _ r2 (s1.trans s2) q2, fun σ2 H2 δ2 M2 r2 s2 q2 => kc _ _ _ _ r2 (s1.trans s2) q2⟩
    cases b with
    | true => exact iteT (post (by simpa using q1))
    | false => exact iteF (post (by simpa using q1))⟩
theorem ds_whl {ta : WpT} {sb : List Stmt} {wb : WpS} (hp : PassesOwn (model X.prog X.w) X.A X.env X.xe) (ht : PT X c (liftT T H0 ta)) (hb : PSs X sb (liftS T H0 wb)) : PS X (.While c sb [] pos) (liftS T H0 fun E δ M => whlGo ta wb E δ M) :=
  (ps_while hp ht hb).weak fun D σ H ⟨δ, M, E, rl, ⟨Z, ⟨n0, z0⟩, turn⟩, kn, kr, kb, kc⟩ => by
    refine ⟨fun n σ' H' => ∃ δ' M', Rl T H0 σ' H' δ' M' ∧ Stb H H' ∧ Z n δ' M', ⟨n0, δ, M, rl, Stb.refl _, z0⟩, ?_⟩
    rintro n σ1 H1 ⟨δ1, M1, r1, s1, z1⟩
    refine ⟨δ1, M1, _, r1, turn n δ1 M1 z1, fun b H2 M2 r2 s2 q2 => ?_⟩
    cases b with
    | true =>
      refine iteT ⟨fun σ' H' => ∃ n' δ' M', n' < n ∧ Rl T H0 σ' H' δ' M' ∧ Stb H H' ∧ Z n' δ' M', ?_, ?_⟩
      · rintro σ' H' ⟨n', δ', M', h1, h2, h3, h4⟩
        exact ⟨n', h1, δ', M', h2, h3, h4⟩
      · exact ⟨δ1, M2, { nx := fun δ' M' => ∃ n', n' < n ∧ Z n' δ' M', ct := fun δ' M' => ∃ n', n' < n ∧ Z n' δ' M', bk := E.nx, rt := E.rt }, r2, by simpa using q2, fun σ3 H3 δ3 M3 r3 s3 ⟨n', h1, h2⟩ => ⟨n', δ3, M3, h1, r3, (s1.trans s2).trans s3, h2⟩, fun v H3 d M3 b3 s3 m3 d3 q3 => kr _ _ _ _ b3 ((s1.trans s2).trans s3) m3 d3 q3,
          fun σ3 H3 δ3 M3 r3 s3 q3 => kn _ _ _ _ r3 ((s1.trans s2).trans s3) q3, fun σ3 H3 δ3 M3 r3 s3 ⟨n', h1, h2⟩ => ⟨n', δ3, M3, h1, r3, (s1.trans s2).trans s3, h2⟩⟩
    | false => exact iteF (kn _ _ _ _ r2 (s1.trans s2) (by simpa using q2))
theorem ds_for {tg iter : Expr} {t : Tg} {wi : WpI} {sb : List Stmt} {wb : WpS} (hp : PassesOwn (model X.prog X.w) X.A X.env X.xe) (hc : X.calm = true) (hi : PI X tg iter (liftI T H0 wi)) (hg : PG X tg (liftG T H0 t)) (hb : PSs X sb (liftS T H0 wb)) (hs : ∀ x, foldedSetIterable iter X.env x = pure x) :
    PS X (.For tg iter sb [] pos) (liftS T H0 fun E δ M => wi δ M fun ds ch M1 => forGo (fun d E δ M => wTg t d M δ fun δ1 => wb E δ1 M) ch E ds δ M1) :=
  (ps_for hp hc hi hg hb hs).weak fun D σ H ⟨δ, M, E, rl, hw, kn, kr, kb, kc⟩ => ⟨δ, M, _, rl, hw, fun J H1 ds ch M1 r1 s1 ok1 q1 => by
    refine ⟨fun i m σ2 H2 => m = ds.length - i ∧ i ≤ ds.length ∧ ∃ δ2 M2, Rl T H0 σ2 H2 δ2 M2 ∧ Stb H1 H2 ∧ forGo (fun d E δ M => wTg t d M δ fun δ1 => wb E δ1 M) ch E (ds.drop i) δ2 M2, ⟨_, rfl, Nat.zero_le _, δ, M1, r1, Stb.refl _, q1⟩, ?_⟩
    rintro i m σ2 H2 ⟨rfl, hi, δ2, M2, r2, s2, g⟩
    by_cases hlt : i < ds.length
    · rw [List.drop_eq_getElem_cons hlt] at g
      obtain ⟨gc, g⟩ := g
      refine .inr ⟨ok1.go i H2 M2 s2 r2.mem gc hlt, fun σ3 H3 => ∃ δ3 M3, Rl T H0 σ3 H3 δ3 M3 ∧ Stb H1 H3 ∧ forGo (fun d E δ M => wTg t d M δ fun δ1 => wb E δ1 M) ch E (ds.drop (i + 1)) δ3 M3, ?_, ?_⟩
      · rintro σ3 H3 ⟨δ3, M3, r3, s3, g3⟩
        exact ⟨_, by omega, rfl, hlt, δ3, M3, r3, s3, g3⟩
      · intro x H3 y
        obtain ⟨y1, y2, y3⟩ := ok1.yld i H2 M2 x H3 _ s2 r2.mem gc (List.getElem?_eq_getElem hlt) y
        refine ⟨_, δ2, M2, _, r2.to y1 y2, y3, g, fun σ4 δ4 r4 _ q4 => ?_⟩
        have st : Stb H H3 := (s1.trans s2).trans y1
        exact ⟨δ4, M2, _, r4, q4, fun σ5 H5 δ5 M5 r5 s5 q5 => ⟨δ5, M5, r5, (s2.trans y1).trans s5, q5⟩, fun v H5 d M5 b5 s5 m5 d5 q5 => kr _ _ _ _ b5 (st.trans s5) m5 d5 q5, fun σ5 H5 δ5 M5 r5 s5 q5 => kn _ _ _ _ r5 (st.trans s5) q5, fun σ5 H5 δ5 M5 r5 s5 q5 => ⟨δ5, M5, r5, (s2.trans y1).trans s5, q5⟩⟩
    · have e : i = ds.length := by omega
      subst e
      rw [List.drop_length] at g
      exact .inl ⟨ok1.stop H2 M2 s2 r2.mem g.1, kn _ _ _ _ r2 (s1.trans s2) g.2⟩⟩
/-- an error class of the text without an __init__ of its own -/
structure ExcOk (X : Cx) (C : Addr) (x : Str) : Prop where
  q : PySem.W.excIn X.K C He.veBase "ValueError.__new__" = true
  mg : X.mg x = some (.ref C)
  kp : PySem.W.keepIn X.K (.ref C) = true
  sb : PySem.W.subIn X.K (.ref C) (.type "BaseException") = some true
  ty : PySem.W.typeIn X.K (.ref C) = some (.type "type")
theorem ds_rse {W : WD} {j : Nat} {x m : Str} {jj : Nat} {p p2 pos2 : Pos} (hc : X.calm = true) (tk : Takes X (liftW T H0 W)) (E : ExcOk X (T.xA j) x) (hg : Gl X x) (hdb : (x == ("__debug__" : Str)) = false) :
    PS X (.Raise (some (.Call (.Name x p) [.Constant (.str m) jj p2] [] pos2)) none pos) (liftS T H0 fun _ δ M => W j [] δ M) :=
  (ps_raise hc tk (pmk_own PySem.F.excBase_ValueError E.q E.mg E.kp (raises_own E.sb E.ty) hg hdb)).weak fun D σ H ⟨δ, M, EE, rl, hw, _, _, _, _⟩ => ⟨j, [], δ, M, rfl, rfl, rl, hw⟩
theorem ds_try1 {W : WD} {x : Str} {j : Nat} {xm : Nat → Nat → Option Bool} {body suite : List Stmt} {b₀ : Stmt} {np : Pos} {tb : WD → WpS} {wh : WpS} (hT : X.K = T.K) (hs : X.stack = X.env :: X.outer) (hf : X.env.frame = some X.env.locals) (hc : Names X x (.ref (T.xA j))) (tk : Takes X (liftW T H0 W))
    (hx : ∀ i k, xm i j = some k → PySem.W.exmOne T.K (.ref (T.xA i)) (.ref (T.xA j)) = some k)
    (hb : ∀ (H0 : Hp) (W : WD) (pn : List (Addr × Obj)) (xe : Value → Shared → Prop), Takes (X.tr pn xe) (liftW T H0 W) → PassesOwn (model X.prog X.w) X.A X.env xe → PSs (X.tr pn xe) body (liftS T H0 (tb W)))
    (hsu : ∀ (H0 : Hp) (a : Addr) (oe : Obj) (cls : Value) (d : Option Addr) (pn : List (Addr × Obj)), Zc cls d oe → (∃ vs, oe.data = .fields vs) → PSs (X.suite a ((a, oe) :: pn)) (b₀ :: suite) (liftS T H0 wh)) :
    PS X (.Try body [.ExceptHandler (some (.Name x np)) none (b₀ :: suite) pos'] [] [] pos) (liftS T H0 fun E δ M => tb (fun i fs δ' M' => opt (xm i j) fun k => if k = true then wh E δ' M' else W i fs δ' M') E δ M) :=
  (ps_try_only (tb := fun WW D σ H => ∃ (W' : WD) (H0' : Hp), (∀ cls d σ H, liftW T H0' W' cls d σ H → WW cls d σ H) ∧ liftS T H0' (tb W') D σ H) (ts := fun a cls d D σ H => ∃ H0', liftS T H0' wh D σ H) hs hf hc tk
    (fun WW pn xe tk' hp => ⟨fun pins s σ H D I ⟨W', H0', imp, q⟩ => (hb H0' W' pn xe (tk'.imp imp) hp).run pins s σ H D I q⟩)
    (fun a oe cls d pn hz hf => ⟨fun pins s σ H D I ⟨H0', q⟩ => (hsu H0' a oe cls d pn hz hf).run pins s σ H D I q⟩)).weak fun D σ H ⟨δ, M, E, rl, hw, kn, kr, kb, kc⟩ => by
    have up : ∀ {σ' : L2.St} {H' : Hp} {δ' : Ev} {M' : Mem}, Rl T H σ' H' δ' M' → Rl T H0 σ' H' δ' M' := fun r => ⟨rl.base.trans r.base, r.env, r.mem⟩
    refine ⟨_, H, ?_, δ, M, E, ⟨Stb.refl _, rl.env, rl.mem⟩, hw, fun σ' H' δ' M' r s q => kn _ _ _ _ (up r) s q, fun v H' d M' b s m dd q => kr _ _ _ _ (rl.base.trans b) s m dd q, fun σ' H' δ' M' r s q => kb _ _ _ _ (up r) s q, fun σ' H' δ' M' r s q => kc _ _ _ _ (up r) s q⟩
    rintro cls d σ' H' ⟨i, fs, δ', M', rfl, ex, r, w⟩
    obtain ⟨k, e, w⟩ := ofOpt w
    refine ⟨k, by rw [hT]; exact hx i k e, fun z a na => ?_, fun z => ?_⟩
    · subst z
      refine ⟨H, δ', M', E, r, by simpa using w, fun σ2 H2 δ2 M2 r2 s2 q2 => kn _ _ _ _ (up r2) (r.base.trans s2) q2, fun v H2 d M2 b2 s2 m2 d2 q2 => kr _ _ _ _ (rl.base.trans b2) (r.base.trans s2) m2 d2 q2, fun σ2 H2 δ2 M2 r2 s2 q2 => kb _ _ _ _ (up r2) (r.base.trans s2) q2, fun σ2 H2 δ2 M2 r2 s2 q2 => kc _ _ _ _ (up r2) (r.base.trans s2) q2⟩
    · subst z
      exact ⟨i, fs, δ', M', rfl, ex, up r, by simpa using w⟩
end
end DL
namespace DL
open PySem PySem.Spec PyProof.Rows L2
/-! ### from the text to the small language -/
structure If where
  N : List Str
  fns : List (Str × Nat)
  free : List Str
  glb : List (Str × D)
  exs : List Str
  mls : List (Nat × Nat)
def ixOf (x : Str) : List Str → Option Nat
  | [] => none
  | y :: r => if x = y then some 0 else (ixOf x r).map (· + 1)
theorem ixOf_ok {x : Str} : ∀ {l : List Str} {i : Nat}, ixOf x l = some i → l[i]? = some x
  | [], _, h => by cases h
  | y :: r, i, h => by
    unfold ixOf at h
    by_cases e : x = y
    · rw [if_pos e] at h; cases h; rw [e]; rfl
    · rw [if_neg e] at h
      cases q : ixOf x r with
      | none => rw [q] at h; cases h
      | some j => rw [q] at h; cases h; show r[j]? = some x; exact ixOf_ok q
/-- the place of a callable by its name and its number of arguments -/
def fnIx (x : Str) (n : Nat) : List (Str × Nat) → Option Nat
  | [] => none
  | y :: r => if x = y.1 ∧ n = y.2 then some 0 else (fnIx x n r).map (· + 1)
theorem fnIx_ok {x : Str} {n : Nat} : ∀ {l : List (Str × Nat)} {i : Nat}, fnIx x n l = some i → l[i]? = some (x, n)
  | [], _, h => by cases h
  | y :: r, i, h => by
    unfold fnIx at h
    by_cases e : x = y.1 ∧ n = y.2
    · rw [if_pos e] at h; cases h; rw [e.1, e.2]; rfl
    · rw [if_neg e] at h
      cases q : fnIx x n r with
      | none => rw [q] at h; cases h
      | some j => rw [q] at h; cases h; show r[j]? = some (x, n); exact fnIx_ok q
def fnNm (x : Str) : List (Str × Nat) → Option Nat
  | [] => none
  | y :: r => if x = y.1 then some 0 else (fnNm x r).map (· + 1)
theorem fnNm_ok {x : Str} : ∀ {l : List (Str × Nat)} {i : Nat}, fnNm x l = some i → ∃ n, l[i]? = some (x, n)
  | [], _, h => by cases h
  | y :: r, i, h => by
    unfold fnNm at h
    by_cases e : x = y.1
    · rw [if_pos e] at h; cases h; rw [e]; exact ⟨y.2, rfl⟩
    · rw [if_neg e] at h
      cases q : fnNm x r with
      | none => rw [q] at h; cases h
      | some j => rw [q] at h; cases h; show ∃ n, r[j]? = some (x, n); exact fnNm_ok q
def tyTab : List (Str × String) := [("int", "int"), ("bool", "bool"), ("str", "str"), ("list", "list"), ("tuple", "tuple"), ("dict", "dict")]
theorem tyTab_ok {x : Str} {t : String} (h : tyTab.lookup x = some t) : bootBuiltins x = some (.type t) ∧ x ≠ "__name__" := by
  have hm := PySem.mem_of_lookup h
  simp only [tyTab, List.mem_cons, Prod.mk.injEq, List.not_mem_nil, or_false] at hm
  rcases hm with ⟨rfl, rfl⟩ | ⟨rfl, rfl⟩ | ⟨rfl, rfl⟩ | ⟨rfl, rfl⟩ | ⟨rfl, rfl⟩ | ⟨rfl, rfl⟩ <;> decide +kernel
def seen (k : Option NameKind) : Bool := match k with
  | some .local => true
  | some .cell => true
  | some .free => true
  | _ => false
def plainNm (x : Str) : Bool := !(x == ("__debug__" : Str)) && !(x == ("__classdict__" : Str))
def trN (I : If) (sc : Scope) (x : Str) : Option Ir :=
  if plainNm x = true then
    if seen (sc.names.lookup x) = true then (ixOf x I.N).map .var
    else if sc.names.lookup x = some .globalImplicit then
      match I.glb.lookup x with
      | some d => some (.cst d)
      | none => match fnNm x I.fns with
        | some j => some (.cst (.fn j))
        | none => if x ∈ I.free then (tyTab.lookup x).map fun t => .cst (.ty t) else none
    else none
  else none
def trC : Const → Option Ir
  | .int i => some (.cst (.int i))
  | .bool b => some (.cst (.bl b))
  | .none => some (.cst .non)
  | .str s => if s.length ≤ 4096 then some (.cst (.str s)) else none
  | _ => none
def trA (f : Expr → Option Ir) : List Expr → Option Irs
  | [] => some .nil
  | e :: es => if notStar e = true then match f e, trA f es with
    | some a, some r => some (.cons a r)
    | _, _ => none else none
def mkB (op : BoolOp) (a r : Ir) : Ir := match op with
  | .And => .and a r
  | .Or => .or a r
def trB (op : BoolOp) (f : Expr → Option Ir) : List Expr → Option Ir
  | [] => none
  | [e] => f e
  | e :: es => match f e, trB op f es with
    | some a, some r => some (mkB op a r)
    | _, _ => none
def trO (f : Expr → Option Ir) : Option Expr → Option Io
  | none => some .none
  | some e => (f e).map .some
def glob (I : If) (sc : Scope) (x : Str) : Bool := plainNm x && decide (sc.names.lookup x = some .globalImplicit)
def trRg (f : Expr → Option Ir) : List Expr → List Keyword → Option It
  | [a], [] => if notStar a = true then (f a).map .rng1 else none
  | [a, b], [] => if notStar a = true ∧ notStar b = true then match f a, f b with
    | some a, some b => some (.rng2 a b)
    | _, _ => none else none
  | [a, b, c], [] => if notStar a = true ∧ notStar b = true ∧ notStar c = true then match f a, f b, f c with
    | some a, some b, some c => some (.rng3 a b c)
    | _, _, _ => none else none
  | _, _ => none
def isRg (I : If) (sc : Scope) (x : Str) : Bool := decide (x = "range") && glob I sc x && decide (x ∈ I.free)
def trI (f : Expr → Option Ir) (I : If) (sc : Scope) : Expr → Option It
  | .Call (.Name x p) args kw pos => if isRg I sc x = true then trRg f args kw else (f (.Call (.Name x p) args kw pos)).map .val
  | e => if notSet e = true then (f e).map .val else none
mutual
/-- top: in a def's own body (a cell may be stored) -/
def trTg (I : If) (sc : Scope) (top : Bool) : Nat → Expr → Option Tg
  | 0, _ => none
  | n + 1, .Name x _ => if sc.names.lookup x = some .local ∨ (top = true ∧ sc.names.lookup x = some .cell) then (ixOf x I.N).map .nm else none
  | n + 1, .Tuple es _ _ => (trTgs I sc top n es).map .tup
  | n + 1, _ => none
def trTgs (I : If) (sc : Scope) (top : Bool) : Nat → List Expr → Option Tgs
  | 0, _ => none
  | n + 1, [] => some .nil
  | n + 1, e :: es => match trTg I sc top n e, trTgs I sc top n es with
    | some t, some ts => some (.cons t ts)
    | _, _ => none
end
def ownOf (N : List Str) (scope : Scope) : List (Str × Nat) := scope.names.filterMap fun y => match y.2 with
  | .local => (ixOf y.1 N).map fun i => (y.1, i)
  | .cell => (ixOf y.1 N).map fun i => (y.1, i)
  | _ => none
def trE : Nat → If → Scope → Expr → Option Ir
  | 0, _, _, _ => none
  | n + 1, I, sc, .Constant c _ _ => trC c
  | n + 1, I, sc, .Name x _ => trN I sc x
  | n + 1, I, sc, .BinOp a op b _ => match trE n I sc a, trE n I sc b with
    | some a, some b => some (.bin op a b)
    | _, _ => none
  | n + 1, I, sc, .UnaryOp op a _ => match op, trE n I sc a with
    | .USub, some a => some (.neg a)
    | .Not, some a => some (.not a)
    | _, _ => none
  | n + 1, I, sc, .BoolOp op vs _ => trB op (trE n I sc) vs
  | n + 1, I, sc, .IfExp t a b _ => match trE n I sc t, trE n I sc a, trE n I sc b with
    | some t, some a, some b => some (.ite t a b)
    | _, _, _ => none
  | n + 1, I, sc, .Compare a ops bs _ => match ops, bs with
    | [op], [b] => if notSet b = true then match trE n I sc a, trE n I sc b with
      | some a, some b => some (.cmp op a b)
      | _, _ => none else none
    | [op, op'], [b, c] => if notSet c = true then match trE n I sc a, trE n I sc b, trE n I sc c with
      | some a, some b, some c => some (.chn op op' a b c)
      | _, _, _ => none else none
    | _, _ => none
  | n + 1, I, sc, .Tuple es _ _ => (trA (trE n I sc) es).map .tup
  | n + 1, I, sc, .List es pos => (trA (trE n I sc) es).map fun as => if (pos.line, pos.col) ∈ I.mls then .mls as else .lst as
  | n + 1, I, sc, .Subscript a b _ => match b with
    | .Slice lo hi st _ => match st with
      | none => match trE n I sc a, trO (trE n I sc) lo, trO (trE n I sc) hi with
        | some a, some l, some h => some (.slc a l h)
        | _, _, _ => none
      | some _ => none
    | b => if notSlice b = true then match trE n I sc a, trE n I sc b with
      | some a, some b => some (.idx a b)
      | _, _ => none else none
  | n + 1, I, sc, .Call f args kw pos => match kw with
    | _ :: _ => none
    | [] => match f with
      | .Name x _ => if glob I sc x = true then
          match fnIx x args.length I.fns, trA (trE n I sc) args with
          | some j, some as => some (.call j as)
          | none, some (.cons a as) => match Bi.ofName x with
            | some b => if x ∈ I.free then some (.blt b (.cons a as)) else none
            | none => none
          | _, _ => none
        else if plainNm x = true ∧ seen (sc.names.lookup x) = true then
          match ixOf x I.N, trA (trE n I sc) args with
          | some i, some (.cons a as) => some (.calv i (.cons a as))
          | _, _ => none
        else none
      | .Attribute o m apos => if notCall o = true ∧ (apos.endLine == pos.line) = true then
          if m = "append" then match args with
            | [b] => if notStar b = true then match trE n I sc o, trE n I sc b with
              | some a, some b => some (.app a b)
              | _, _ => none else none
            | _ => none
          else if m = "bit_length" then match args with
            | [] => (trE n I sc o).map .bits
            | _ => none
          else none
        else none
      | _ => none
  | n + 1, I, sc, .ListComp elt gs scope _ => match gs with
    | [⟨tg, iter, ifs, as⟩] => if as = 0 ∧ notSet iter = true ∧ blkC I.N sc scope (ownOf I.N scope) = true then
        match trI (trE n I sc) I sc iter, trTg I (relS scope sc) false 8 tg, trE n I (relS scope sc) elt with
        | some it, some t, some e => if ∀ i ∈ t.slots, i ∈ (ownOf I.N scope).map (·.2) then
            match ifs with
            | [] => some (.lc it t (.cst (.bl true)) e ((ownOf I.N scope).map (·.2)))
            | [c] => (trE n I (relS scope sc) c).map fun c => .lc it t c e ((ownOf I.N scope).map (·.2))
            | _ => none
          else none
        | _, _, _ => none
      else none
    | _ => none
  | _ + 1, _, _, _ => none
/-! ### where code runs: what the translation leans on -/
structure Cok (X : Cx) (T : Tx) (I : If) (Γ : List DSp) (sc : Scope) (top : Bool) : Prop where
  hT : X.K = T.K
  hN : X.N = I.N
  nd : X.N.Nodup
  hsc : X.env.scope = sc
  un : X.A.units + 64 < cLine
  calm : X.calm = true
  fns : ∀ j x n, I.fns[j]? = some (x, n) → X.mg x = some (.ref (T.fA j))
  kp : ∀ j x n, I.fns[j]? = some (x, n) → PySem.W.keepIn X.K (.ref (T.fA j)) = true
  cal : ∀ j φ, Γ[j]? = some φ → Callee X T (T.fA j) φ
  free : ∀ x, x ∈ I.free → X.mg x = none
  glb : ∀ x d, (x, d) ∈ I.glb → ∃ u v, X.mg x = some u ∧ RelV v u ∧ ∀ H, Den T H v d
  fn : top = true → ∀ x, X.fn x = true
section
variable {X : Cx} {T : Tx} {I : If} {Γ : List DSp} {sc : Scope} {top : Bool} {H0 : Hp} {W : WD}
theorem dt_never {e : Expr} {Γ : List DSp} {ir : Ir} (h : ∀ δ M Q, ¬ dT Γ ir W δ M Q) : PT X e (liftT T H0 (dT Γ ir W)) := ⟨fun _ _ _ _ _ _ ⟨δ, M, Q, _, q, _⟩ => (h δ M Q q).elim⟩
theorem takesW0 {X : Cx} {T : Tx} {H0 : Hp} : Takes X (liftW T H0 W0) := fun u s' x => by
  obtain ⟨_, _, _, _, _, _, _, _, _, _, _, _, _, _, _, _, _, _, _, _, _, _, _, w⟩ := x
  exact w.elim
theorem Cok.blk (C : Cok X T I Γ sc top) {scope : Scope} {s : Shared} {H : Hp} {cl : List (Str × Addr)} {c : Addr} {fp : List Addr} : Cok (X.blk s H scope (compEnvC scope cl c X.env) fp) T I Γ (relS scope sc) false where
  hT := C.hT
  hN := C.hN
  nd := C.nd
  hsc := by rw [← C.hsc]; rfl
  un := C.un
  calm := C.calm
  fns := C.fns
  kp := C.kp
  cal := fun j φ h => ⟨(C.cal j φ h).ex, (C.cal j φ h).kp⟩
  free := C.free
  glb := C.glb
  fn := fun h => nomatch h
theorem plain_ok {x : Str} (h : plainNm x = true) : (x == ("__debug__" : Str)) = false ∧ (x == ("__classdict__" : Str)) = false := by
  unfold plainNm at h
  rw [Bool.and_eq_true] at h
  exact ⟨by simpa using h.1, by simpa using h.2⟩
theorem seen_ok {x : Str} (h : seen (sc.names.lookup x) = true) : Vis sc x := by
  unfold seen at h
  unfold Vis
  split at h <;> first | simp_all | cases h
theorem glob_ok (C : Cok X T I Γ sc top) {x : Str} (h : glob I sc x = true) : Gl X x ∧ (x == ("__debug__" : Str)) = false := by
  unfold glob at h
  rw [Bool.and_eq_true] at h
  refine ⟨?_, (plain_ok h.1).1⟩
  show X.env.scope.names.lookup x = some .globalImplicit
  rw [C.hsc]
  exact of_decide_eq_true h.2
theorem trC_ok {c : Const} {k : Nat} {pos : Pos} {ir : Ir} (h : trC c = some ir) : ∃ d, ir = .cst d ∧ PE X (.Constant c k pos) (liftE T H0 fun _ M Q => Q d M) := by
  cases c with
  | int i => cases h; exact ⟨_, rfl, de_cst pe_int fun _ => .int i⟩
  | bool b => cases h; exact ⟨_, rfl, de_cst pe_bl fun _ => .bl b⟩
  | none => cases h; exact ⟨_, rfl, de_cst pe_non fun _ => .non⟩
  | str s =>
    have h' : (if s.length ≤ 4096 then some (Ir.cst (.str s)) else none) = some ir := h
    by_cases hs : s.length ≤ 4096
    · rw [if_pos hs] at h'
      cases h'
      exact ⟨_, rfl, de_cst pe_str fun _ => .str s (line4096 hs)⟩
    · rw [if_neg hs] at h'
      cases h'
  | _ => cases h
theorem trN_ok (C : Cok X T I Γ sc top) {x : Str} {pos : Pos} {ir : Ir} (h : trN I sc x = some ir) :
    (∃ i, ir = .var i ∧ PE X (.Name x pos) (liftE T H0 fun δ M Q => opt δ[i]? fun o => opt o fun d => Q d M)) ∨ ∃ d, ir = .cst d ∧ PE X (.Name x pos) (liftE T H0 fun _ M Q => Q d M) := by
  unfold trN at h
  split at h
  · rename_i hp
    obtain ⟨hd, hcd⟩ := plain_ok hp
    split at h
    · rename_i hs
      cases q : ixOf x I.N with
      | none => rw [q] at h; cases h
      | some i =>
        rw [q] at h
        cases h
        refine .inl ⟨i, rfl, de_var (by rw [C.hN]; exact ixOf_ok q) (by rw [C.hsc]; exact seen_ok hs) hd hcd⟩
    · split at h
      · rename_i hg
        have gl : Gl X x := by
          show X.env.scope.names.lookup x = some .globalImplicit
          rw [C.hsc]; exact hg
        cases q : I.glb.lookup x with
        | some d =>
          rw [q] at h
          cases h
          obtain ⟨u, v, e1, r, hden⟩ := C.glb x d (PySem.mem_of_lookup q)
          exact .inr ⟨d, rfl, de_cst (pe_glob gl e1 r hd) hden⟩
        | none =>
          rw [q] at h
          cases q2 : fnNm x I.fns with
          | some j =>
            rw [q2] at h
            cases h
            obtain ⟨n, e⟩ := fnNm_ok q2
            exact .inr ⟨_, rfl, de_cst (pe_glob (v := .ref (T.fA j)) gl (C.fns j x n e) rfl hd) fun _ => .fn j⟩
          | none =>
            rw [q2] at h
            simp only at h
            split at h
            · rename_i hf
              cases q3 : tyTab.lookup x with
              | none => rw [q3] at h; cases h
              | some t =>
                rw [q3] at h
                cases h
                obtain ⟨e1, e2⟩ := tyTab_ok q3
                exact .inr ⟨_, rfl, de_cst (pe_bltn (v := .ty t) gl (C.free x hf) e1 rfl e2 hd) fun _ => .ty t⟩
            · cases h
      · cases h
  · cases h
theorem trA_ok {f : Expr → Option Ir} (ih : ∀ e ir, f e = some ir → PE X e (liftE T H0 (dE Γ ir W))) : ∀ {es : List Expr} {as : Irs}, trA f es = some as → PA X es (liftA T H0 (dA Γ as W)) ∧ noStars es = true
  | [], as, h => by cases h; exact ⟨da_nil, rfl⟩
  | e :: es, as, h => by
    unfold trA at h
    split at h
    · rename_i hs
      split at h
      · rename_i a r q1 q2
        cases h
        obtain ⟨h1, h2⟩ := trA_ok ih q2
        exact ⟨da_cons (ih e a q1) h1 hs, by show (notStar e && noStars es) = true; rw [hs, h2] <;> rfl⟩
      · cases h
    · cases h
theorem trA_nil {f : Expr → Option Ir} {es : List Expr} (h : trA f es = some .nil) : es = [] := by
  cases es with
  | nil => rfl
  | cons e es =>
    unfold trA at h
    split at h
    · split at h <;> cases h
    · cases h
theorem trA_cons {f : Expr → Option Ir} {es : List Expr} {a : Ir} {as : Irs} (h : trA f es = some (.cons a as)) : ∃ e r, es = e :: r := by
  cases es with
  | nil => cases h
  | cons e es => exact ⟨_, _, rfl⟩
theorem pw_of_pt {e : Expr} {op : BoolOp} {pos : Pos} {t : TT} (h : PT X e t) : PW X (.BoolOp op [e] pos) t := by
  cases op with
  | And => exact pw_and1 h
  | Or => exact pw_or1 h
theorem trB_ok {f : Expr → Option Ir} {op : BoolOp} {pos : Pos} (hT : X.K = T.K) (ih : ∀ e ir, f e = some ir → PE X e (liftE T H0 (dE Γ ir W)) ∧ PT X e (liftT T H0 (dT Γ ir W))) :
    ∀ {es : List Expr} {ir : Ir}, trB op f es = some ir → PE X (.BoolOp op es pos) (liftE T H0 (dE Γ ir W)) ∧ PW X (.BoolOp op es pos) (liftT T H0 (dT Γ ir W))
  | [], _, h => by cases h
  | [e], ir, h => by
    have h' : f e = some ir := h
    exact ⟨pe_one (ih e ir h').1, pw_of_pt (ih e ir h').2⟩
  | e :: e2 :: es, ir, h => by
    unfold trB at h
    split at h
    · rename_i a r q1 q2
      obtain ⟨h1, h2⟩ := trB_ok (pos := pos) hT ih q2
      obtain ⟨g1, g2⟩ := ih e a q1
      cases op with
      | And => cases h; exact ⟨de_and hT g1 h1, dw_and g2 h2⟩
      | Or => cases h; exact ⟨de_or hT g1 h1, dw_or g2 h2⟩
    · cases h
theorem trO_ok {f : Expr → Option Ir} (ih : ∀ e ir, f e = some ir → PE X e (liftE T H0 (dE Γ ir W))) {e : Option Expr} {o : Io} (h : trO f e = some o) : PO X e (liftO T H0 (dO Γ o W)) := by
  cases e with
  | none => cases h; exact do_none
  | some e =>
    have h' : (f e).map Io.some = some o := h
    cases q : f e with
    | none => rw [q] at h'; cases h'
    | some a => rw [q] at h'; cases h'; exact do_some (ih e a q)
theorem fold_call {f : Expr} {args : List Expr} {kw : List Keyword} {pos : Pos} {env : Env} : ∀ x, foldedSetIterable (.Call f args kw pos) env x = pure x := fun _ => rfl
theorem trRg_ok {f : Expr → Option Ir} (ih : ∀ e ir, f e = some ir → PE X e (liftE T H0 (dE Γ ir W))) {args : List Expr} {kw : List Keyword} {it : It} {tg : Expr} {p pos : Pos} (gl : Gl X "range") (fr : X.mg "range" = none) (h : trRg f args kw = some it) :
    PI X tg (.Call (.Name "range" p) args kw pos) (liftI T H0 (dI Γ it W)) := by
  unfold trRg at h
  split at h
  · split at h
    · rename_i a hs
      cases q : f a with
      | none => rw [q] at h; cases h
      | some a' => rw [q] at h; cases h; exact di_rng1 gl fr hs (ih a a' q)
    · cases h
  · split at h
    · rename_i a b hs
      split at h
      · rename_i a' b' q1 q2
        cases h
        exact di_rng2 gl fr hs.1 hs.2 (ih a a' q1) (ih b b' q2)
      · cases h
    · cases h
  · split at h
    · rename_i a b c hs
      split at h
      · rename_i a' b' c' q1 q2 q3
        cases h
        exact di_rng3 gl fr hs.1 hs.2.1 hs.2.2 (ih a a' q1) (ih b b' q2) (ih c c' q3)
      · cases h
    · cases h
  · cases h
theorem trI_ok {f : Expr → Option Ir} (C : Cok X T I Γ sc top) (ih : ∀ e ir, f e = some ir → PE X e (liftE T H0 (dE Γ ir W))) {e : Expr} {it : It} {tg : Expr} (h : trI f I sc e = some it) : PI X tg e (liftI T H0 (dI Γ it W)) ∧ ∀ x, foldedSetIterable e X.env x = pure x := by
  have val : ∀ {e : Expr}, (f e).map It.val = some it → notSet e = true → PI X tg e (liftI T H0 (dI Γ it W)) ∧ ∀ x, foldedSetIterable e X.env x = pure x := fun {e} h hs => by
    cases q : f e with
    | none => rw [q] at h; cases h
    | some a => rw [q] at h; cases h; exact ⟨di_val C.hT (ih e a q), fold_ok hs⟩
  have gen : (if notSet e = true then (f e).map It.val else none) = some it → PI X tg e (liftI T H0 (dI Γ it W)) ∧ ∀ x, foldedSetIterable e X.env x = pure x := fun h => by
    split at h
    · rename_i hs; exact val h hs
    · cases h
  cases e with
  | Call g args kw pos =>
    cases g with
    | Name x p =>
      have h' : (if isRg I sc x = true then trRg f args kw else (f (.Call (.Name x p) args kw pos)).map It.val) = some it := h
      by_cases hr : isRg I sc x = true
      · rw [if_pos hr] at h'
        unfold isRg at hr
        rw [Bool.and_eq_true, Bool.and_eq_true] at hr
        obtain ⟨⟨h1, hg⟩, hf⟩ := hr
        have e1 := of_decide_eq_true h1
        subst e1
        exact ⟨trRg_ok ih (glob_ok C hg).1 (C.free _ (of_decide_eq_true hf)) h', fold_call⟩
      · rw [if_neg hr] at h'
        exact val h' rfl
    | _ => exact gen h
  | _ => exact gen h
theorem asg_each {e : Expr} {es : List Expr} {env : Env} (h : ∃ I sc top n t, trTg I sc top n e = some t) : (assignEach (e :: es) env) = (false, assign e env) :: assignEach es env := by
  obtain ⟨I, sc, top, n, t, h⟩ := h
  cases e <;> first | rfl | (cases n <;> (unfold trTg at h; cases h))
theorem trTgs_each {env : Env} : ∀ (n : Nat) {es : List Expr} {ts : Tgs}, trTgs I sc top n es = some ts → (assignEach es env).length = ts.len ∧ (assignEach es env).findIdx? (·.1) = none
  | 0, _, _, h => by unfold trTgs at h; cases h
  | n + 1, [], ts, h => by
    unfold trTgs at h
    cases h
    exact ⟨rfl, rfl⟩
  | n + 1, e :: es, ts, h => by
    unfold trTgs at h
    split at h
    · rename_i t tr q1 q2
      cases h
      obtain ⟨h1, h2⟩ := trTgs_each n q2
      rw [asg_each ⟨_, _, _, _, _, q1⟩]
      refine ⟨congrArg Nat.succ h1, ?_⟩
      rw [List.findIdx?_cons, h2] <;> rfl
    · cases h
mutual
theorem trTg_ok (C : Cok X T I Γ sc top) : ∀ (n : Nat) {e : Expr} {t : Tg}, trTg I sc top n e = some t → PG X e (liftG T H0 t)
  | 0, _, _, h => by unfold trTg at h; cases h
  | n + 1, e, t, h => by
    cases e with
    | Name x p =>
      unfold trTg at h
      split at h
      · rename_i hk
        cases q : ixOf x I.N with
        | none => rw [q] at h; cases h
        | some i =>
          rw [q] at h
          cases h
          refine tg_name C.nd (by rw [C.hN]; exact ixOf_ok q) ?_ ?_
          · rw [C.hsc]
            exact hk.elim .inl fun z => .inr z.2
          · rw [C.hsc]
            exact hk.elim .inr fun z => .inl (C.fn z.1 x)
      · cases h
    | Tuple es k p =>
      unfold trTg at h
      cases q : trTgs I sc top n es with
      | none => rw [q] at h; cases h
      | some ts =>
        rw [q] at h
        cases h
        obtain ⟨h1, h2⟩ := trTgs_each (env := X.env) n q
        exact tg_tup C.hT C.calm (trTgs_ok C n q) h1 h2
    | _ => unfold trTg at h; cases h
theorem trTgs_ok (C : Cok X T I Γ sc top) : ∀ (n : Nat) {es : List Expr} {ts : Tgs}, trTgs I sc top n es = some ts → PGs X es (liftGs T H0 ts)
  | 0, _, _, h => by unfold trTgs at h; cases h
  | n + 1, [], _, h => by unfold trTgs at h; cases h; exact tgs_nil
  | n + 1, e :: es, _, h => by
    unfold trTgs at h
    split at h
    · rename_i t tr q1 q2
      cases h
      exact tgs_cons (trTg_ok C n q1) (trTgs_ok C n q2) (by rw [asg_each ⟨_, _, _, _, _, q1⟩] <;> rfl)
    · cases h
end
end
end DL
section
set_option maxHeartbeats 1000000
namespace DL
open PySem PySem.Spec PyProof.Rows L2
theorem trCall_ok {n : Nat} {X : Cx} {T : Tx} {I : If} {Γ : List DSp} {sc : Scope} {top : Bool} (C : Cok X T I Γ sc top) {H0 : Hp} {W : WD} (tk : Takes X (liftW T H0 W))
    (ih : ∀ e ir, trE n I sc e = some ir → PE X e (liftE T H0 (dE Γ ir W))) {f : Expr} {args : List Expr} {kw : List Keyword} {pos : Pos} {ir : Ir} (h : trE (n + 1) I sc (.Call f args kw pos) = some ir) :
    PE X (.Call f args kw pos) (liftE T H0 (dE Γ ir W)) ∧ PT X (.Call f args kw pos) (liftT T H0 (dT Γ ir W)) := by
  unfold trE at h
  cases kw with
  | cons _ _ => cases h
  | nil =>
    cases f with
    | Name x p =>
      simp only at h
      split at h
      · rename_i hg
        obtain ⟨gl, hdb⟩ := glob_ok C hg
        split at h
        · rename_i j as q1 q2
          cases h
          have mg := C.fns j x _ (fnIx_ok q1)
          obtain ⟨h1, h2⟩ := trA_ok ih q2
          have key : PE X (.Call (.Name x p) args [] pos) (liftE T H0 (dE Γ (.call j as) W)) := by
            cases e : Γ[j]? with
            | none =>
              have eq : ∀ δ M Q, dE Γ (.call j as) W δ M Q = dA Γ as W δ M fun ds M1 => False := fun δ M Q => by
                show (dA Γ as W δ M fun ds M1 => opt Γ[j]? fun φ => φ ds M1 Q fun x fs M' => W x fs δ M') = _
                rw [e] <;> rfl
              refine ⟨fun pins s σ H k I' ⟨δ, M, Q, rl, hw, kk⟩ => ?_⟩
              rw [eq] at hw
              cases args with
              | nil =>
                cases as with
                | nil => exact False.elim hw
                | cons a r => obtain ⟨_, _, z⟩ := trA_cons q2; cases z
              | cons e0 es =>
                rw [noStars, List.all_cons, Bool.and_eq_true] at h2
                refine wpAny_Call_Name_kw (ld_glob I' gl mg ?_ hdb)
                exact PySem.W.callWith_K (h₀ := X.base) I'.ok.mod.kin (C.kp j x _ (fnIx_ok q1)) (thn (h1.run pos pins s σ H (fun _ _ => False) I' ⟨δ, M, _, rl, hw, fun _ _ _ _ _ _ _ z => z⟩) fun us s1 ⟨_, _, _, _, z⟩ => z.elim) (star_ok h2.1) (stars_ok h2.2)
            | some φ =>
              have CC := C.cal j φ e
              have eq : dE Γ (.call j as) W = fun δ M Q => dA Γ as W δ M fun ds M1 => φ ds M1 Q fun x fs M' => W x fs δ M' := by
                funext δ M Q
                show (dA Γ as W δ M fun ds M1 => opt Γ[j]? fun φ => φ ds M1 Q fun x fs M' => W x fs δ M') = _
                rw [e] <;> rfl
              rw [eq]
              cases args with
              | nil =>
                have : as = .nil := by
                  cases as with
                  | nil => rfl
                  | cons a r => obtain ⟨_, _, z⟩ := trA_cons q2; cases z
                subst this
                exact de_call0 CC tk gl mg hdb
              | cons e0 es =>
                rw [noStars, List.all_cons, Bool.and_eq_true] at h2
                exact de_call CC tk gl mg hdb h2.1 h2.2 h1
          exact ⟨key, dt_val C.hT key fun _ => rfl⟩
        · rename_i a as q1 q2
          split at h
          · rename_i b q3
            split at h
            · rename_i hf
              cases h
              obtain ⟨e0, es, rfl⟩ := trA_cons q2
              obtain ⟨h1, h2⟩ := trA_ok ih q2
              rw [noStars, List.all_cons, Bool.and_eq_true] at h2
              have key : PE X (.Call (.Name x p) (e0 :: es) [] pos) (liftE T H0 (dE Γ (.blt b (.cons a as)) W)) := de_blt C.hT C.calm gl (C.free x hf) (Bi.ofName_ok q3) h2.1 h2.2 h1
              exact ⟨key, dt_val C.hT key fun _ => rfl⟩
            · cases h
          · cases h
        · cases h
      · split at h
        · rename_i hp
          obtain ⟨hd, hcd⟩ := plain_ok hp.1
          split at h
          · rename_i i a as q1 q2
            cases h
            obtain ⟨e0, es, rfl⟩ := trA_cons q2
            obtain ⟨h1, h2⟩ := trA_ok ih q2
            rw [noStars, List.all_cons, Bool.and_eq_true] at h2
            have key : PE X (.Call (.Name x p) (e0 :: es) [] pos) (liftE T H0 (dE Γ (.calv i (.cons a as)) W)) :=
              de_calv C.cal tk (by rw [C.hN]; exact ixOf_ok q1) (by rw [C.hsc]; exact seen_ok hp.2) hd hcd h2.1 h2.2 h1
            exact ⟨key, dt_val C.hT key fun _ => rfl⟩
          · cases h
        · cases h
    | Attribute o m apos =>
      simp only at h
      split at h
      · rename_i hh
        split at h
        · rename_i hm
          subst hm
          split at h
          · rename_i b
            split at h
            · rename_i hs
              split at h
              · rename_i a' b' q1 q2
                cases h
                exact ⟨de_app C.hT hh.1 hs hh.2 (ih _ _ q1) (ih _ _ q2), dt_never fun _ _ _ z => z⟩
              · cases h
            · cases h
          · cases h
        · split at h
          · rename_i hm
            subst hm
            split at h
            · cases q : trE n I sc o with
              | none => rw [q] at h; cases h
              | some a => rw [q] at h; cases h; exact ⟨de_bits hh.1 hh.2 (ih _ _ q), dt_never fun _ _ _ z => z⟩
            · cases h
          · cases h
      · cases h
    | _ => cases h
theorem pts_true {X : Cx} {T : Tx} {H0 : Hp} {Γ : List DSp} {W : WD} : PTs X [] (liftT T H0 (dT Γ (.cst (.bl true)) W)) := by
  refine ⟨fun pins s σ H Q I ⟨δ, M, QQ, rl, hw, kk⟩ => ?_⟩
  exact pts_nil.run pins s σ H Q I (kk true H M rl (Stb.refl _) hw)
theorem trE_ok : ∀ (n : Nat) {X : Cx} {T : Tx} {I : If} {Γ : List DSp} {sc : Scope} {top : Bool} (C : Cok X T I Γ sc top) {H0 : Hp} {W : WD} (tk : Takes X (liftW T H0 W)) (e : Expr) (ir : Ir), trE n I sc e = some ir →
    PE X e (liftE T H0 (dE Γ ir W)) ∧ PT X e (liftT T H0 (dT Γ ir W))
  | 0, _, _, _, _, _, _, _, _, _, _, _, _, h => by unfold trE at h; cases h
  | n + 1, X, T, I, Γ, sc, top, C, H0, W, tk, e, ir, h => by
    have ih := fun e ir h => (trE_ok n C tk e ir h).1
    cases e with
    | Constant c k p =>
      obtain ⟨d, rfl, h1⟩ := trC_ok (H0 := H0) (T := T) (X := X) (k := k) (pos := p) (by unfold trE at h; exact h)
      exact ⟨h1, dt_val C.hT h1 fun _ => rfl⟩
    | Name x p =>
      rcases trN_ok (H0 := H0) (pos := p) C (by unfold trE at h; exact h) with ⟨i, rfl, h1⟩ | ⟨d, rfl, h1⟩
      · have key : PE X (.Name x p) (liftE T H0 (dE Γ (.var i) W)) := h1
        refine ⟨key, (dt_val C.hT key fun _ => rfl).weak fun σ H k ⟨δ, M, Q, rl, hw, kk⟩ => ⟨δ, M, Q, rl, hw, kk⟩⟩
      · exact ⟨h1, dt_val C.hT h1 fun _ => rfl⟩
    | BinOp a op b p =>
      unfold trE at h
      split at h
      · rename_i a' b' q1 q2
        cases h
        have key : PE X (.BinOp a op b p) (liftE T H0 (dE Γ (.bin op a' b') W)) := de_bin C.hT (ih _ _ q1) (ih _ _ q2)
        exact ⟨key, dt_val C.hT key fun _ => rfl⟩
      · cases h
    | UnaryOp op a p =>
      unfold trE at h
      split at h
      · rename_i a' q
        cases h
        exact ⟨de_neg (ih _ _ q), dt_never fun _ _ _ z => z⟩
      · rename_i a' q
        cases h
        obtain ⟨h1, h2⟩ := trE_ok n C tk _ _ q
        exact ⟨de_not C.hT h1, dt_not h2⟩
      · cases h
    | BoolOp op vs p =>
      unfold trE at h
      obtain ⟨h1, h2⟩ := trB_ok (pos := p) C.hT (fun e ir h => trE_ok n C tk e ir h) h
      exact ⟨h1, h2.pt⟩
    | IfExp t a b p =>
      unfold trE at h
      split at h
      · rename_i t' a' b' q1 q2 q3
        cases h
        exact ⟨de_ite (trE_ok n C tk _ _ q1).2 (ih _ _ q2) (ih _ _ q3), dt_never fun _ _ _ z => z⟩
      · cases h
    | Compare a ops bs p =>
      unfold trE at h
      split at h
      · split at h
        · rename_i hs
          split at h
          · rename_i a' b' q1 q2
            cases h
            exact ⟨de_cmp C.hT C.un (marks_ok hs) (ih _ _ q1) (ih _ _ q2), dt_cmp C.hT C.un (marks_ok hs) (ih _ _ q1) (ih _ _ q2)⟩
          · cases h
        · cases h
      · split at h
        · rename_i op op' b c hs
          split at h
          · rename_i a' b' c' q1 q2 q3
            cases h
            have hm : lastMarks [op, op'] [b, c] = false := marks_ok (op := op') hs
            exact ⟨de_chn C.hT C.un hm (ih _ _ q1) (ih _ _ q2) (ih _ _ q3), dt_chn C.hT C.un hm (ih _ _ q1) (ih _ _ q2) (ih _ _ q3)⟩
          · cases h
        · cases h
      · cases h
    | Tuple es k p =>
      unfold trE at h
      cases q : trA (trE n I sc) es with
      | none => rw [q] at h; cases h
      | some as => rw [q] at h; cases h; exact ⟨de_tup (trA_ok ih q).1, dt_never fun _ _ _ z => z⟩
    | List es p =>
      unfold trE at h
      cases q : trA (trE n I sc) es with
      | none => rw [q] at h; cases h
      | some as =>
        rw [q] at h
        cases h
        split
        · exact ⟨de_mls (trA_ok ih q).1, dt_never fun _ _ _ z => z⟩
        · exact ⟨de_lst (trA_ok ih q).1, dt_never fun _ _ _ z => z⟩
    | Subscript a b p =>
      unfold trE at h
      split at h
      · split at h
        · split at h
          · rename_i a' l' h' q1 q2 q3
            cases h
            exact ⟨de_slc C.hT (ih _ _ q1) (trO_ok ih q2) (trO_ok ih q3), dt_never fun _ _ _ z => z⟩
          · cases h
        · cases h
      · split at h
        · rename_i hs
          split at h
          · rename_i a' b' q1 q2
            cases h
            have key : PE X (.Subscript a b p) (liftE T H0 (dE Γ (.idx a' b') W)) := de_idx C.hT hs (ih _ _ q1) (ih _ _ q2)
            exact ⟨key, dt_val C.hT key fun _ => rfl⟩
          · cases h
        · cases h
    | Call f args kw p => exact trCall_ok C tk ih h
    | ListComp elt gs scope p =>
      unfold trE at h
      split at h
      · rename_i tg iter ifs as
        split at h
        · rename_i hh
          obtain ⟨rfl, hs, hb⟩ := hh
          split at h
          · rename_i it t e' q1 q2 q3
            split at h
            · rename_i hsl
              obtain ⟨g1, g2⟩ := trI_ok (tg := tg) C ih q1
              have ok : BlkOk X.N X.env.scope scope (ownOf I.N scope) := by rw [C.hN, C.hsc]; exact blkOk_by hb
              have core : ∀ {c : Ir}, (∀ (s : Shared) (H : Hp) (C : Addr) (cl : List (Str × Addr)) (fp : List Addr), PTs (X.blk s H scope (compEnvC scope cl C X.env) fp) ifs (liftT T H0 (dT Γ c W0))) →
                  PE X (.ListComp elt [⟨tg, iter, ifs, 0⟩] scope p) (liftE T H0 (dE Γ (.lc it t c e' ((ownOf I.N scope).map (·.2))) W)) := fun ht =>
                de_lc C.calm C.nd g1 ok (fun s H c cl fp => trTg_ok (C.blk (s := s) (H := H) (cl := cl) (c := c) (fp := fp)) 8 q2) ht
                  (fun s H c cl fp => (trE_ok n (C.blk (s := s) (H := H) (cl := cl) (c := c) (fp := fp)) takesW0 _ _ q3).1) g2 hsl
              split at h
              · cases h
                exact ⟨core fun _ _ _ _ _ => pts_true, dt_never fun _ _ _ z => z⟩
              · rename_i c
                cases q4 : trE n I (relS scope sc) c with
                | none => rw [q4] at h; cases h
                | some c' =>
                  rw [q4] at h
                  cases h
                  exact ⟨core fun s H c2 cl fp => pts_one (trE_ok n (C.blk (s := s) (H := H) (cl := cl) (c := c2) (fp := fp)) takesW0 _ _ q4).2, dt_never fun _ _ _ z => z⟩
              · cases h
            · cases h
          · cases h
        · cases h
      · cases h
    | _ => unfold trE at h; cases h
end DL
end
section
set_option maxHeartbeats 1000000
namespace DL
open PySem PySem.Spec PyProof.Rows L2
/-! ### a, b = x, y: which way it goes -/
def swNm (ts : List Expr) (sc : Scope) : List Str := ts.filterMap fun
  | .Name id pos => if sc.names.lookup id == some .local && pos.line == (ts.head?.map (·.pos.line)).getD 0 then some id else none
  | _ => none
/-- the stores are not exchanged -/
def swNo (ts vs : List Expr) (sc : Scope) : Bool := !(ts.length == 2 || ts.length == 3) || vs.length != ts.length || (noStars vs && ((swNm ts sc).length != ts.length || vs.all (foldedForSure 8)))
def swYes (ts vs : List Expr) (sc : Scope) : Bool := (ts.length == 2 || ts.length == 3) && vs.length == ts.length && noStars vs && (swNm ts sc).length == ts.length && (swNm ts sc).eraseDups.length == (swNm ts sc).length && !vs.all (foldedForSure 8) && !vs.all (constantsAlone 8)
theorem anyStar {vs : List Expr} (h : noStars vs = true) : (vs.any fun | .Starred .. => true | _ => false) = false := by
  rw [List.any_eq_false]
  intro e he
  have := List.all_eq_true.mp h e he
  cases e <;> first | exact absurd this Bool.false_ne_true | simp
theorem sw_eq {ts vs : List Expr} {k1 k2 : Nat} {p1 p2 : Pos} {env : Env} {sc : Scope} (h : env.scope = sc) : swappedStores [.Tuple ts k1 p1] (.Tuple vs k2 p2) env =
    if (!(ts.length == 2 || ts.length == 3) || vs.length != ts.length || env.blockKind != .function) = true then pure none
    else if (vs.any fun | .Starred .. => true | _ => false) = true then pure none
    else if ((swNm ts sc).length != ts.length || (swNm ts sc).eraseDups.length != (swNm ts sc).length) = true then pure none
    else if vs.all (foldedForSure 8) = true then pure none
    else if vs.all (constantsAlone 8) = true then (do unsupported "assign.tuple-of-constant-expressions:order-of-the-stores"; pure (some (swNm ts sc)))
    else pure (some (swNm ts sc)) := by
  subst h
  rfl
theorem sw_no {ts vs : List Expr} {k1 k2 : Nat} {p1 p2 : Pos} {env : Env} {sc : Scope} (hsc : env.scope = sc) (h : swNo ts vs sc = true) : swappedStores [.Tuple ts k1 p1] (.Tuple vs k2 p2) env = pure none := by
  unfold swNo at h
  rw [sw_eq hsc]
  rw [Bool.or_eq_true, Bool.or_eq_true] at h
  rcases h with (h | h) | h
  · rw [h, Bool.true_or, Bool.true_or, if_pos rfl]
  · rw [h, Bool.or_true, Bool.true_or, if_pos rfl]
  · rw [Bool.and_eq_true] at h
    obtain ⟨h1, h2⟩ := h
    rw [anyStar h1, if_neg Bool.false_ne_true]
    rw [Bool.or_eq_true] at h2
    rcases h2 with h2 | h2
    · rw [h2, Bool.true_or, if_pos rfl, ite_self]
    · rw [h2, if_pos rfl, ite_self, ite_self]
theorem sw_yes {ts vs : List Expr} {k1 k2 : Nat} {p1 p2 : Pos} {env : Env} {sc : Scope} (hsc : env.scope = sc) (hk : env.scope.kind = .function) (h : swYes ts vs sc = true) : swappedStores [.Tuple ts k1 p1] (.Tuple vs k2 p2) env = pure (some (swNm ts sc)) := by
  unfold swYes at h
  simp only [Bool.and_eq_true] at h
  obtain ⟨⟨⟨⟨⟨⟨h1, h2⟩, h3⟩, h4⟩, h5⟩, h6⟩, h7⟩ := h
  have hb : env.blockKind = .function := by unfold Env.blockKind; rw [hk]; rfl
  rw [sw_eq hsc, anyStar h3, hb]
  rw [Bool.not_eq_true'] at h6 h7
  rw [h6, h7, h1, show (vs.length != ts.length) = false from by rw [bne, h2]; rfl, show ((swNm ts sc).length != ts.length) = false from by rw [bne, h4]; rfl, show ((swNm ts sc).eraseDups.length != (swNm ts sc).length) = false from by rw [bne, h5]; rfl]
  rfl
theorem sw_tup {t e : Expr} {env : Env} (h : ∀ vs k p, e ≠ .Tuple vs k p) : swappedStores [t] e env = pure none := by
  unfold swappedStores
  cases e <;> first | exact absurd rfl (h _ _ _) | (cases t <;> rfl)
theorem sw_tgt {t e : Expr} {env : Env} (h : ∀ vs k p, t ≠ .Tuple vs k p) (h2 : ∀ vs p, t ≠ .List vs p) : swappedStores [t] e env = pure none := by
  unfold swappedStores
  cases t <;> first | exact absurd rfl (h _ _ _) | exact absurd rfl (h2 _ _) | rfl
end DL
end
section
set_option maxHeartbeats 1000000
namespace DL
open PySem PySem.Spec PyProof.Rows L2
def trH1 : Stmt → Option Sr
  | .Pass _ => some .pas
  | .Continue _ => some .cnt
  | .Return (some (.Constant c _ _)) _ => (trC c).map .ret
  | _ => none
def trH : List Stmt → Option Srs
  | [] => some .nil
  | s :: r => match trH1 s, trH r with
    | some a, some b => some (.cons a b)
    | _, _ => none
/-- a, b = x, y and a, b, c = x, y, z with plain locals -/
def trPar (f : Expr → Option Ir) (I : If) : List Str → List Expr → Option Sr
  | [x, y], [a, b] => match ixOf x I.N, ixOf y I.N, f a, f b with
    | some i, some j, some a, some b => if i ≠ j then some (.par i j a b) else none
    | _, _, _, _ => none
  | [x, y, z], [a, b, c] => match ixOf x I.N, ixOf y I.N, ixOf z I.N, f a, f b, f c with
    | some i, some j, some l, some a, some b, some c => if i ≠ j ∧ i ≠ l ∧ j ≠ l then some (.par3 i j l a b c) else none
    | _, _, _, _, _, _ => none
  | _, _ => none
def nmOf : List Expr → List Str
  | [] => []
  | .Name x _ :: r => x :: nmOf r
  | _ :: r => nmOf r
def trAs (n : Nat) (I : If) (sc : Scope) (tg e : Expr) : Option Sr := match tg with
  | .Name x _ => if notComp e = true ∧ (sc.names.lookup x = some .local ∨ sc.names.lookup x = some .cell) then match ixOf x I.N, trE n I sc e with
    | some i, some e => some (.set i e)
    | _, _ => none else none
  | .Tuple ts k p => match e with
    | .Tuple vs _ _ => if swYes ts vs sc = true ∧ nmOf ts = swNm ts sc ∧ ts.length = (swNm ts sc).length then trPar (trE n I sc) I (swNm ts sc) vs
      else if swNo ts vs sc = true then match trTg I sc true 8 (.Tuple ts k p), trE n I sc e with
        | some t, some e => some (.asg t e)
        | _, _ => none
      else none
    | e => if notComp e = true then match trTg I sc true 8 (.Tuple ts k p), trE n I sc e with
      | some t, some e => some (.asg t e)
      | _, _ => none else none
  | .Subscript o i _ => if notComp e = true ∧ notSlice i = true then match trE n I sc o, trE n I sc i, trE n I sc e with
    | some o, some i, some e => some (.sub o i e)
    | _, _, _ => none else none
  | _ => none
def trRs (I : If) (sc : Scope) : Expr → Option Sr
  | .Call (.Name x _) [.Constant (.str _) _ _] [] _ => if glob I sc x = true then (ixOf x I.exs).map .rse else none
  | _ => none
mutual
def trS : Nat → If → Scope → Stmt → Option Sr
  | 0, _, _, _ => none
  | n + 1, I, sc, .Pass _ => some .pas
  | n + 1, I, sc, .Break _ => some .brk
  | n + 1, I, sc, .Continue _ => some .cnt
  | n + 1, I, sc, .Return e _ => match e with
    | none => some .retN
    | some e => (trE n I sc e).map .ret
  | n + 1, I, sc, .Expr e _ => if notComp e = true then (trE n I sc e).map .drp else none
  | n + 1, I, sc, .If c a b _ => match trE n I sc c, trSs n I sc a, trSs n I sc b with
    | some c, some a, some b => some (.ite c a b)
    | _, _, _ => none
  | n + 1, I, sc, .While c a b _ => match b, trE n I sc c, trSs n I sc a with
    | [], some c, some a => some (.whl c a)
    | _, _, _ => none
  | n + 1, I, sc, .For tg it a b _ => match b, trTg I sc true 8 tg, trI (trE n I sc) I sc it, trSs n I sc a with
    | [], some t, some it, some a => some (.for_ t it a)
    | _, _, _, _ => none
  | n + 1, I, sc, .Assign ts e _ => match ts with
    | [t] => trAs n I sc t e
    | _ => none
  | n + 1, I, sc, .AugAssign t op e _ => match t with
    | .Name x _ => if sc.names.lookup x = some .local ∨ sc.names.lookup x = some .cell then match ixOf x I.N, trE n I sc e with
      | some i, some e => some (.aug i op e)
      | _, _ => none else none
    | _ => none
  | n + 1, I, sc, .Raise e c _ => match e, c with
    | some e, none => trRs I sc e
    | _, _ => none
  | n + 1, I, sc, .Try b hs o f _ => match hs, o, f with
    | [.ExceptHandler (some (.Name x _)) none (b0 :: su) _], [], [] => if glob I sc x = true then match trSs n I sc b, ixOf x I.exs, trH (b0 :: su) with
      | some b, some j, some h => some (.try1 b j h)
      | _, _, _ => none else none
    | _, _, _ => none
  | _ + 1, _, _, _ => none
def trSs : Nat → If → Scope → List Stmt → Option Srs
  | 0, _, _, _ => none
  | n + 1, I, sc, [] => some .nil
  | n + 1, I, sc, s :: r => match trS n I sc s, trSs n I sc r with
    | some a, some b => some (.cons a b)
    | _, _ => none
end
structure Sok (X : Cx) (T : Tx) (I : If) (Γ : List DSp) (xm : Nat → Nat → Option Bool) (sc : Scope) : Prop where
  c : Cok X T I Γ sc true
  po : PassesOwn (model X.prog X.w) X.A X.env X.xe
  stk : X.stack = X.env :: X.outer
  frm : X.env.frame = some X.env.locals
  kind : X.env.scope.kind = .function
  exc : ∀ j x, I.exs[j]? = some x → ExcOk X (T.xA j) x
  xm : ∀ i j k, xm i j = some k → PySem.W.exmOne T.K (.ref (T.xA i)) (.ref (T.xA j)) = some k
section
variable {X : Cx} {T : Tx} {I : If} {Γ : List DSp} {xm : Nat → Nat → Option Bool} {sc : Scope} {H0 : Hp} {W : WD}
theorem trH1_ok {s : Stmt} {r : Sr} (h : trH1 s = some r) : PS X s (liftS T H0 (dS Γ xm r W)) := by
  unfold trH1 at h
  split at h
  · cases h; exact ds_pas
  · cases h; exact ds_cnt
  · rename_i c k p p2
    cases q : trC c with
    | none => rw [q] at h; cases h
    | some ir =>
      rw [q] at h
      cases h
      obtain ⟨d, rfl, h1⟩ := trC_ok (X := X) (T := T) (H0 := H0) (k := k) (pos := p) q
      exact ds_ret h1
  · cases h
theorem trH_ok : ∀ {l : List Stmt} {r : Srs}, trH l = some r → PSs X l (liftS T H0 (dSs Γ xm r W))
  | [], _, h => by cases h; exact dss_nil
  | s :: l, r, h => by
    unfold trH at h
    split at h
    · rename_i a b q1 q2
      cases h
      exact dss_cons (w := dS Γ xm a W) (r := dSs Γ xm b W) (trH1_ok q1) (trH_ok q2)
    · cases h
theorem nm_one {ts : List Expr} {e : Expr} {x : Str} {l : List Str} (h : nmOf (e :: ts) = x :: l) (hl : ts.length = l.length) (hle : ∀ ts : List Expr, (nmOf ts).length ≤ ts.length) : ∃ p, e = .Name x p ∧ nmOf ts = l := by
  cases e with
  | Name y p =>
    have h' : y :: nmOf ts = x :: l := h
    injection h' with h1 h2
    subst h1
    exact ⟨p, rfl, h2⟩
  | _ =>
    have h' : nmOf ts = x :: l := h
    have := hle ts
    rw [h', List.length_cons] at this
    omega
theorem nm_le : ∀ ts : List Expr, (nmOf ts).length ≤ ts.length
  | [] => Nat.le_refl _
  | e :: ts => by
    have ih := nm_le ts
    cases e with
    | Name x p => show (nmOf ts).length + 1 ≤ _; exact Nat.succ_le_succ ih
    | _ => show (nmOf ts).length ≤ _; exact Nat.le_succ_of_le ih
theorem nm_local {ts : List Expr} {sc : Scope} {x : Str} (h : x ∈ swNm ts sc) : sc.names.lookup x = some .local := by
  unfold swNm at h
  rw [List.mem_filterMap] at h
  obtain ⟨e, _, h⟩ := h
  cases e with
  | Name y p =>
    have h' : (if (sc.names.lookup y == some .local && p.line == (ts.head?.map (·.pos.line)).getD 0) = true then some y else none) = some x := h
    split at h'
    · rename_i hc
      cases h'
      rw [Bool.and_eq_true] at hc
      exact eq_of_beq hc.1
    · cases h'
  | _ => cases h
theorem sub_asg {o i : Expr} {p : Pos} {env : Env} (h : notSlice i = true) (v : Value) : assign (.Subscript o i p) env v = (do
      let ov ← holding [v] (eval o env)
      let iv ← holding [v, ov] (eval i env)
      standAt p
      holding [v, ov, iv] (setItem ov iv v)
      release [v, ov, iv] []) := by
  cases i <;> first | rfl | cases h
theorem trAs_ok {n : Nat} (S : Sok X T I Γ xm sc) (tk : Takes X (liftW T H0 W)) {tg e : Expr} {r : Sr} {pos : Pos} (h : trAs n I sc tg e = some r) : PS X (.Assign [tg] e pos) (liftS T H0 (dS Γ xm r W)) := by
  have C := S.c
  have ih := fun e ir h => (trE_ok n C tk e ir h).1
  unfold trAs at h
  split at h
  · rename_i x p
    split at h
    · rename_i hh
      split at h
      · rename_i i a q1 q2
        cases h
        exact ds_set C.nd (by rw [C.hN]; exact ixOf_ok q1) (by rw [C.hsc]; exact hh.2) (ih _ _ q2) (swaps_ok hh.1) (.inl (C.fn rfl x))
      · cases h
    · cases h
  · rename_i ts k p
    have gen : ∀ {t : Tg} {a : Ir}, notComp e = true → trTg I sc true 8 (.Tuple ts k p) = some t → trE n I sc e = some a → swappedStores [.Tuple ts k p] e X.env = pure none → PS X (.Assign [.Tuple ts k p] e pos) (liftS T H0 (dS Γ xm (.asg t a) W)) := fun hc q1 q2 hsw =>
      ds_asg (ih _ _ q2) (trTg_ok C 8 q1) (show swapsWith e (some (.Tuple ts k p)) pos.line X.env = pure false from swaps_ok hc) hsw rfl
    split at h
    · rename_i vs k2 p2
      split at h
      · rename_i hh
        obtain ⟨h1, h2, h3⟩ := hh
        have hw := sw_yes (k1 := k) (k2 := k2) (p1 := p) (p2 := p2) C.hsc S.kind h1
        have hst : noStars vs = true := by
          unfold swYes at h1
          simp only [Bool.and_eq_true] at h1
          exact h1.1.1.1.1.2
        have hloc : ∀ x, x ∈ swNm ts sc → sc.names.lookup x = some .local := fun x hx => nm_local hx
        unfold trPar at h
        split at h
        · rename_i x y a b hnm
          rw [hnm] at h2 h3 hloc hw
          obtain ⟨t1, ts', rfl⟩ : ∃ a b, ts = [a, b] := by
            match ts, h3 with
            | [a, b], _ => exact ⟨_, _, rfl⟩
          obtain ⟨px, rfl, h2'⟩ := nm_one h2 rfl nm_le
          obtain ⟨py, rfl, _⟩ := nm_one h2' rfl nm_le
          split at h
          · rename_i i j a' b' q1 q2 q3 q4
            split at h
            · rename_i hij
              cases h
              have hs2 : notStar a = true ∧ notStar b = true := by
                have : (notStar a && (notStar b && true)) = true := hst
                simpa [Bool.and_eq_true] using this
              exact ds_par C.calm C.nd (by rw [C.hN]; exact ixOf_ok q1) (by rw [C.hN]; exact ixOf_ok q2) hij (by rw [C.hsc]; exact hloc x (by simp)) (by rw [C.hsc]; exact hloc y (by simp)) (ih _ _ q3) (ih _ _ q4) hs2.1 hs2.2 hw
            · cases h
          · cases h
        · rename_i x y z a b c hnm
          rw [hnm] at h2 h3 hloc hw
          obtain ⟨t1, t2, t3, rfl⟩ : ∃ a b c, ts = [a, b, c] := by
            match ts, h3 with
            | [a, b, c], _ => exact ⟨_, _, _, rfl⟩
          obtain ⟨px, rfl, h2'⟩ := nm_one h2 rfl nm_le
          obtain ⟨py, rfl, h2''⟩ := nm_one h2' rfl nm_le
          obtain ⟨pz, rfl, _⟩ := nm_one h2'' rfl nm_le
          split at h
          · rename_i i j l a' b' c' q1 q2 q3 q4 q5 q6
            split at h
            · rename_i hij
              cases h
              have hs2 : notStar a = true ∧ notStar b = true ∧ notStar c = true := by
                have : (notStar a && (notStar b && (notStar c && true))) = true := hst
                simpa [Bool.and_eq_true] using this
              exact ds_par3 C.calm C.nd (by rw [C.hN]; exact ixOf_ok q1) (by rw [C.hN]; exact ixOf_ok q2) (by rw [C.hN]; exact ixOf_ok q3) hij.1 hij.2.1 hij.2.2 (by rw [C.hsc]; exact hloc x (by simp)) (by rw [C.hsc]; exact hloc y (by simp)) (by rw [C.hsc]; exact hloc z (by simp))
                (ih _ _ q4) (ih _ _ q5) (ih _ _ q6) hs2.1 hs2.2.1 hs2.2.2 hw
            · cases h
          · cases h
        · cases h
      · split at h
        · rename_i hn
          split at h
          · rename_i t a q1 q2
            cases h
            exact gen rfl q1 q2 (sw_no C.hsc hn)
          · cases h
        · cases h
    · rename_i hnt
      split at h
      · rename_i hc
        split at h
        · rename_i t a q1 q2
          cases h
          exact gen hc q1 q2 (sw_tup fun vs k p z => hnt vs k p z)
        · cases h
      · cases h
  · rename_i o i p
    split at h
    · rename_i hh
      split at h
      · rename_i o' i' e' q1 q2 q3
        cases h
        exact ds_sub (ih _ _ q1) (ih _ _ q2) (ih _ _ q3) (show swapsWith e (some (.Subscript o i p)) pos.line X.env = pure false from swaps_ok hh.1) (sw_tgt (fun _ _ _ z => nomatch z) (fun _ _ z => nomatch z)) rfl (sub_asg hh.2)
      · cases h
    · cases h
  · cases h
theorem Sok.tr (S : Sok X T I Γ xm sc) {pn : List (Addr × Obj)} {xe : Value → Shared → Prop} (hp : PassesOwn (model X.prog X.w) X.A X.env xe) : Sok (X.tr pn xe) T I Γ xm sc where
  c := { hT := S.c.hT, hN := S.c.hN, nd := S.c.nd, hsc := S.c.hsc, un := S.c.un, calm := S.c.calm, fns := S.c.fns, kp := S.c.kp, cal := fun j φ h => ⟨(S.c.cal j φ h).ex, (S.c.cal j φ h).kp⟩, free := S.c.free, glb := S.c.glb, fn := S.c.fn }
  po := hp
  stk := S.stk
  frm := S.frm
  kind := S.kind
  exc := fun j x h => let E := S.exc j x h; ⟨E.q, E.mg, E.kp, E.sb, E.ty⟩
  xm := S.xm
mutual
theorem trS_ok : ∀ (n : Nat) {X : Cx} (S : Sok X T I Γ xm sc) {H0 : Hp} {W : WD} (tk : Takes X (liftW T H0 W)) (st : Stmt) (r : Sr), trS n I sc st = some r → PS X st (liftS T H0 (dS Γ xm r W))
  | 0, _, _, _, _, _, _, _, h => by unfold trS at h; cases h
  | n + 1, X, S, H0, W, tk, st, r, h => by
    have C := S.c
    have ih := fun e ir h => (trE_ok n C tk e ir h).1
    cases st with
    | Pass p => unfold trS at h; cases h; exact ds_pas
    | Break p => unfold trS at h; cases h; exact ds_brk
    | Continue p => unfold trS at h; cases h; exact ds_cnt
    | Return e p =>
      unfold trS at h
      split at h
      · cases h; exact ds_retN
      · rename_i e
        cases q : trE n I sc e with
        | none => rw [q] at h; cases h
        | some a => rw [q] at h; cases h; exact ds_ret (ih _ _ q)
    | Expr e p =>
      unfold trS at h
      split at h
      · rename_i hc
        cases q : trE n I sc e with
        | none => rw [q] at h; cases h
        | some a => rw [q] at h; cases h; exact ds_drp (ih _ _ q) (swaps_ok hc)
      · cases h
    | If c a b p =>
      unfold trS at h
      split at h
      · rename_i c' a' b' q1 q2 q3
        cases h
        exact ds_ite (trE_ok n C tk _ _ q1).2 (trSs_ok n S tk _ _ q2) (trSs_ok n S tk _ _ q3)
      · cases h
    | While c a b p =>
      unfold trS at h
      split at h
      · rename_i c' a' q1 q2
        cases h
        exact ds_whl S.po (trE_ok n C tk _ _ q1).2 (trSs_ok n S tk _ _ q2)
      · cases h
    | For tg it a b p =>
      unfold trS at h
      split at h
      · rename_i t i a' q1 q2 q3
        cases h
        obtain ⟨g1, g2⟩ := trI_ok (tg := tg) C ih q2
        exact ds_for S.po C.calm g1 (trTg_ok C 8 q1) (trSs_ok n S tk _ _ q3) g2
      · cases h
    | Assign ts e p =>
      unfold trS at h
      split at h
      · exact trAs_ok S tk h
      · cases h
    | AugAssign t op e p =>
      unfold trS at h
      split at h
      · split at h
        · rename_i hk
          split at h
          · rename_i i a q1 q2
            cases h
            exact ds_aug C.nd (by rw [C.hN]; exact ixOf_ok q1) (by rw [C.hsc]; exact hk) (ih _ _ q2) (.inl (C.fn rfl _))
          · cases h
        · cases h
      · cases h
    | Raise e c p =>
      unfold trS at h
      split at h
      · unfold trRs at h
        split at h
        · split at h
          · rename_i x p1 m k p2 p3 hg
            obtain ⟨gl, hdb⟩ := glob_ok C hg
            cases q : ixOf x I.exs with
            | none => rw [q] at h; cases h
            | some j => rw [q] at h; cases h; exact ds_rse C.calm tk (S.exc j x (ixOf_ok q)) gl hdb
          · cases h
        · cases h
      · cases h
    | Try b hs o f p =>
      unfold trS at h
      split at h
      · split at h
        · rename_i x p1 b0 su p2 hg
          obtain ⟨gl, hdb⟩ := glob_ok C hg
          split at h
          · rename_i b' j h' q1 q2 q3
            cases h
            exact ds_try1 (tb := fun W => dSs Γ xm b' W) (wh := dSs Γ xm h' W0) C.hT S.stk S.frm ⟨gl, hdb, .inl (S.exc j x (ixOf_ok q2)).mg⟩ tk (fun i k e => S.xm i j k e)
              (fun H0 W pn xe tk' hp => trSs_ok n (S.tr hp) tk' _ _ q1) (fun H0 a oe cls d pn hz hf => trH_ok q3)
          · cases h
        · cases h
      · cases h
    | _ => unfold trS at h; cases h
theorem trSs_ok : ∀ (n : Nat) {X : Cx} (S : Sok X T I Γ xm sc) {H0 : Hp} {W : WD} (tk : Takes X (liftW T H0 W)) (l : List Stmt) (r : Srs), trSs n I sc l = some r → PSs X l (liftS T H0 (dSs Γ xm r W))
  | 0, _, _, _, _, _, _, _, h => by unfold trSs at h; cases h
  | n + 1, _, _, _, _, _, [], _, h => by unfold trSs at h; cases h; exact dss_nil
  | n + 1, X, S, H0, W, tk, s :: l, _, h => by
    unfold trSs at h
    split at h
    · rename_i a b q1 q2
      cases h
      exact dss_cons (w := dS Γ xm a W) (r := dSs Γ xm b W) (trS_ok n S tk _ _ q1) (trSs_ok n S tk _ _ q2)
    · cases h
end
end
end DL
end
section
set_option maxHeartbeats 1000000
namespace DL
open PySem PySem.Spec PyProof.Rows L2
/-! ### defs -/
def startD (n : Nat) (ds : List D) : Ev := ds.map some ++ List.replicate (n - ds.length) none
theorem start_ok {T : Tx} {H : Hp} {N : List Str} {vs : List V} {ds : List D} (r : DenL T H vs ds) : EnvOk T H (L2.start N vs) (startD N.length ds) := by
  unfold L2.start startD
  refine ⟨by simp [r.length], fun i d e => ?_⟩
  by_cases hi : i < ds.length
  · rw [List.getElem?_append_left (by simpa using hi), List.getElem?_map] at e
    cases q : ds[i]? with
    | none => rw [q] at e; cases e
    | some x =>
      rw [q] at e
      cases e
      obtain ⟨v, e1, h⟩ := r.get q
      exact ⟨v, by rw [List.getElem?_append_left (by simpa [r.length] using hi), List.getElem?_map, e1] <;> rfl, h⟩
  · rw [List.getElem?_append_right (by simpa using Nat.le_of_not_lt hi), List.getElem?_replicate] at e
    split at e <;> cases e
structure PI where
  fns : List (Str × Nat)
  free : List Str
  glb : List (Str × D)
  exs : List Str
def PI.if_ (p : PI) (N : List Str) (mls : List (Nat × Nat)) : If := { N := N, fns := p.fns, free := p.free, glb := p.glb, exs := p.exs, mls := mls }
structure ExcK (K : PySem.W.Frag) (mg : Str → Option Value) (C : Addr) (x : Str) : Prop where
  q : PySem.W.excIn K C He.veBase "ValueError.__new__" = true
  mg : mg x = some (.ref C)
  kp : PySem.W.keepIn K (.ref C) = true
  sb : PySem.W.subIn K (.ref C) (.type "BaseException") = some true
  ty : PySem.W.typeIn K (.ref C) = some (.type "type")
/-- the text's facts -/
structure Pok (mg : Str → Option Value) (T : Tx) (p : PI) (xm : Nat → Nat → Option Bool) : Prop where
  fns : ∀ j x n, p.fns[j]? = some (x, n) → mg x = some (.ref (T.fA j))
  kp : ∀ j x n, p.fns[j]? = some (x, n) → PySem.W.keepIn T.K (.ref (T.fA j)) = true
  free : ∀ x, x ∈ p.free → mg x = none
  glb : ∀ x d, (x, d) ∈ p.glb → ∃ u v, mg x = some u ∧ RelV v u ∧ ∀ H, Den T H v d
  exc : ∀ j x, p.exs[j]? = some x → ExcK T.K mg (T.xA j) x
  xm : ∀ i j k, xm i j = some k → PySem.W.exmOne T.K (.ref (T.xA i)) (.ref (T.xA j)) = some k
/-- the def at f keeps the contract φ, at a level up to k -/
def CalK (P : Program) (w : World) (mg : Str → Option Value) (base : Heap) (T : Tx) (k : Nat) (f : Addr) (φ : DSp) : Prop :=
  ∃ (fd : FuncData) (ps : List Str) (us : List Value) (dvs : List V) (dd : List D) (φ0 : DSp), FnOk P w T.K mg base (L2.CX P w) k f fd ps (liftSp T ps.length φ0) ∧ Binds T.K fd ps us ∧ Vals dvs us ∧
    (∀ H, DenL T H dvs dd) ∧ (∀ l M Q E, φ l M Q E → l.length + dvs.length = ps.length) ∧ (∀ l M Q E, φ l M Q E → φ0 (l ++ dd) M Q E) ∧ PySem.W.keepIn T.K (.ref f) = true
theorem CalK.mono {P : Program} {w : World} {mg : Str → Option Value} {base : Heap} {T : Tx} {j k : Nat} {f : Addr} {φ : DSp} (h : CalK P w mg base T j f φ) (le : j ≤ k) : CalK P w mg base T k f φ := by
  obtain ⟨fd, ps, us, dvs, dd, φ0, F, r⟩ := h
  exact ⟨fd, ps, us, dvs, dd, φ0, F.mono le, r⟩
/-- what is wanted behind a def's body: anything may be forgotten -/
def endW (E : XD) : WD := fun j fs _ M' => ∃ M'', M''.le M' ∧ E j fs M''
def endS (Q : QD) : En := { nx := fun _ M' => ∃ M'', M''.le M' ∧ Q .non M'', rt := fun d M' => ∃ M'', M''.le M' ∧ Q d M'' }
/-- a def keeps what its translation shows -/
theorem fn_D {P : Program} {w : World} {mg : Str → Option Value} {base : Heap} {T : Tx} {p : PI} {xm : Nat → Nat → Option Bool} {Γ : List DSp} {k n : Nat} {x q : Str} {params : Arguments} {body : List Stmt} {scope : Scope} {dvs : List V} {kws : List (Str × V)} {f : Addr} {fd : FuncData} {N ps : List Str} {mls : List (Nat × Nat)} {ir : Srs} {φ : DSp}
    (F : FunD T.K x q params body scope dvs kws f fd) (S : FnScope N ps scope) (Pk : Pok mg T p xm) (G : ∀ j φ, Γ[j]? = some φ → CalK P w mg base T k (T.fA j) φ) (tr : trSs n (p.if_ N mls) scope body = some ir)
    (h : ∀ ds M Q E, φ ds M Q E → ds.length = ps.length → dSs Γ xm ir (endW E) (endS Q) (startD N.length ds) M) : FnOk P w T.K mg base (L2.CX P w) (k + 1) f fd ps (liftSp T ps.length φ) := by
  refine F.ok S (fun vs H Q E ⟨ds, M, QQ, EE, hl, _⟩ => hl) fun cdv A outer s H vs Q E hr hsp => ?_
  obtain ⟨ds, M, QQ, EE, hl, hd, hm, hφ, kq, ke⟩ := hsp
  have SK : Sok (cxOf (L2.CX P w) P w T.K mg base N q scope f cdv A outer s H E) T (p.if_ N mls) Γ xm scope := {
    c := { hT := rfl, hN := rfl, nd := S.nd, hsc := rfl, un := hr.units, calm := rfl, fns := Pk.fns, kp := Pk.kp, cal := fun j φ e => by
             obtain ⟨fd, ps, us, dvs, dd, φ0, F, h1, h2, h3, h4, h5, h6⟩ := G j φ e
             exact ⟨⟨k, fd, ps, us, dvs, dd, φ0, F, hr, h1, h2, h3, h4, h5⟩, h6⟩, free := Pk.free, glb := Pk.glb, fn := fun _ _ => rfl }
    po := passes_of rfl
    stk := rfl
    frm := rfl
    kind := S.kind
    exc := fun j x e => let E := Pk.exc j x e; ⟨E.q, E.mg, E.kp, E.sb, E.ty⟩
    xm := Pk.xm }
  have tk : Takes (cxOf (L2.CX P w) P w T.K mg base N q scope f cdv A outer s H E) (liftW T H (endW EE)) :=
    (takes_of (X := cxOf (L2.CX P w) P w T.K mg base N q scope f cdv A outer s H E) (E := E) rfl rfl rfl rfl).imp fun cls d σ H' ⟨j, fs, δ, M', e, ex, rl, M'', le, z⟩ => by
      subst e
      exact ke j d fs H' M'' rl.base (rl.mem.le le) ex z
  refine ⟨_, trSs_ok n SK tk _ _ tr, startD N.length ds, M, endS QQ, ⟨Stb.refl _, start_ok hd, hm⟩, h ds M QQ EE hφ (by rw [← hd.length]; exact hl), ?_, ?_, fun _ _ _ _ _ _ z => z, fun _ _ _ _ _ _ z => z⟩
  · rintro σ' H' δ' M' rl s ⟨M'', le, z⟩
    exact kq _ _ _ _ s (rl.mem.le le) .non z
  · rintro v H' d M' b s m dd ⟨M'', le, z⟩
    exact kq _ _ _ _ s (m.le le) dd z
/-- how it may be called: every parameter written -/
theorem CalK.all {P : Program} {w : World} {mg : Str → Option Value} {base : Heap} {T : Tx} {k : Nat} {f : Addr} {fd : FuncData} {ps : List Str} {φ : DSp} (F : FnOk P w T.K mg base (L2.CX P w) k f fd ps (liftSp T ps.length φ)) (b : Binds T.K fd ps []) (kp : PySem.W.keepIn T.K (.ref f) = true) (hl : ∀ l M Q E, φ l M Q E → l.length = ps.length) :
    CalK P w mg base T k f φ := ⟨fd, ps, [], [], [], φ, F, b, .nil, fun _ => .nil, fun l M Q E h => by simpa using hl l M Q E h, fun l M Q E h => by rw [List.append_nil]; exact h, kp⟩
end DL
end
namespace DL
open PySem PySem.Spec PyProof.Rows L2
/-! ### one step each, for simp -/
section
variable {Γ : List DSp} {xm : Nat → Nat → Option Bool} {W : WD} {δ : Ev} {M : Mem} {Q : QD} {QT : Bool → Mem → Prop} {QA : List D → Mem → Prop} {QO : Option Int → Mem → Prop} {QI : List D → (Mem → Prop) → Mem → Prop} {E : En} {a b c e o i : Ir} {as : Irs} {n j l : Nat} {s : Sr} {r p q : Srs} {d x y z : D} {u v t : Int} {kb kc : Bool} {xs ys : List D} {k : Bool → Prop} {sa sb : Str}
@[simp] theorem e_var : dE Γ (.var n) W δ M Q = opt δ[n]? fun o => opt o fun d => Q d M := rfl
@[simp] theorem e_cst : dE Γ (.cst d) W δ M Q = Q d M := rfl
@[simp] theorem e_bin {op : Operator} : dE Γ (.bin op a b) W δ M Q = dE Γ a W δ M fun x M1 => dE Γ b W δ M1 fun y M2 => wBin op x y M2 Q := rfl
@[simp] theorem e_neg : dE Γ (.neg a) W δ M Q = dE Γ a W δ M fun x M1 => wNeg x M1 Q := rfl
@[simp] theorem e_not : dE Γ (.not a) W δ M Q = dE Γ a W δ M fun x M1 => dTru x M1 fun k => Q (.bl (!k)) M1 := rfl
@[simp] theorem e_and : dE Γ (.and a b) W δ M Q = dE Γ a W δ M fun x M1 => dTru x M1 fun k => if k = true then dE Γ b W δ M1 Q else Q x M1 := rfl
@[simp] theorem e_or : dE Γ (.or a b) W δ M Q = dE Γ a W δ M fun x M1 => dTru x M1 fun k => if k = true then Q x M1 else dE Γ b W δ M1 Q := rfl
@[simp] theorem e_cmp {op : CmpOp} : dE Γ (.cmp op a b) W δ M Q = dE Γ a W δ M fun x M1 => dE Γ b W δ M1 fun y M2 => wCmp op x y M2 Q := rfl
@[simp] theorem e_chn {op op' : CmpOp} : dE Γ (.chn op op' a b c) W δ M Q = dE Γ a W δ M fun x M1 => dE Γ b W δ M1 fun y M2 => wCmp op x y M2 fun z M3 => wChn z fun k => if k = true then dE Γ c W δ M3 fun u M4 => wCmp op' y u M4 Q else Q (.bl false) M3 := rfl
@[simp] theorem e_ite : dE Γ (.ite c a b) W δ M Q = dT Γ c W δ M fun k M1 => if k = true then dE Γ a W δ M1 Q else dE Γ b W δ M1 Q := rfl
@[simp] theorem e_tup : dE Γ (.tup as) W δ M Q = dA Γ as W δ M fun ds M1 => ds.length ≤ 4096 ∧ Q (.tup ds) M1 := rfl
@[simp] theorem e_lst : dE Γ (.lst as) W δ M Q = dA Γ as W δ M fun ds M1 => ds.length ≤ 4096 ∧ Q (.lst ds) M1 := rfl
@[simp] theorem e_mls : dE Γ (.mls as) W δ M Q = dA Γ as W δ M fun ds M1 => ds.length ≤ 4096 ∧ ∀ p, M1 p = none → Q (.ref p) (M1.put p (.lst ds)) := rfl
@[simp] theorem e_idx : dE Γ (.idx a b) W δ M Q = dE Γ a W δ M fun x M1 => dE Γ b W δ M1 fun y M2 => wIdx x y M2 Q := rfl
@[simp] theorem e_slc {lo hi : Io} : dE Γ (.slc a lo hi) W δ M Q = dE Γ a W δ M fun x M1 => dO Γ lo W δ M1 fun l M2 => dO Γ hi W δ M2 fun u M3 => wSlc x l u M3 Q := rfl
@[simp] theorem e_call : dE Γ (.call j as) W δ M Q = dA Γ as W δ M fun ds M1 => opt Γ[j]? fun φ => φ ds M1 Q fun x fs M' => W x fs δ M' := rfl
@[simp] theorem e_calv : dE Γ (.calv n as) W δ M Q = opt δ[n]? fun o => opt o fun f => opt (fnOf f) fun j => opt Γ[j]? fun φ => dA Γ as W δ M fun ds M1 => φ ds M1 Q fun x fs M' => W x fs δ M' := rfl
@[simp] theorem e_blt {bi : Bi} : dE Γ (.blt bi as) W δ M Q = dA Γ as W δ M fun ds M1 => wBlt bi ds M1 Q := rfl
@[simp] theorem e_app : dE Γ (.app a b) W δ M Q = dE Γ a W δ M fun x M1 => opt (lsM M1 x) fun _ => dE Γ b W δ M1 fun y M2 => wApp x y M2 Q := rfl
@[simp] theorem e_bits : dE Γ (.bits a) W δ M Q = dE Γ a W δ M fun x M1 => wBits x M1 Q := rfl
@[simp] theorem e_lc {it : It} {tg : Tg} {ws : List Nat} : dE Γ (.lc it tg c e ws) W δ M Q = dI Γ it W δ M fun ds ch M1 => ∀ p, M1 p = none → lcGo (fun d M k => wTg tg d M (wipeD δ ws) fun δ1 => dT Γ c W0 δ1 M fun b M2 => if b = true then dE Γ e W0 δ1 M2 fun y M3 => k (some y) M3 else k none M2) ch p (fun es M3 => Q (.lst es) M3) ds [] (M1.put p (.lst [])) := rfl
@[simp] theorem t_not : dT Γ (.not a) W δ M QT = dT Γ a W δ M fun k M1 => QT (!k) M1 := rfl
@[simp] theorem t_and : dT Γ (.and a b) W δ M QT = dT Γ a W δ M fun k M1 => if k = true then dT Γ b W δ M1 QT else QT false M1 := rfl
@[simp] theorem t_or : dT Γ (.or a b) W δ M QT = dT Γ a W δ M fun k M1 => if k = true then QT true M1 else dT Γ b W δ M1 QT := rfl
@[simp] theorem t_cmp {op : CmpOp} : dT Γ (.cmp op a b) W δ M QT = dE Γ a W δ M fun x M1 => dE Γ b W δ M1 fun y M2 => wCmp op x y M2 fun z M3 => wChn z fun k => QT k M3 := rfl
@[simp] theorem t_chn {op op' : CmpOp} : dT Γ (.chn op op' a b c) W δ M QT = dE Γ a W δ M fun x M1 => dE Γ b W δ M1 fun y M2 => wCmp op x y M2 fun z M3 => wChn z fun k => if k = true then dE Γ c W δ M3 fun u M4 => wCmp op' y u M4 fun z' M5 => wChn z' fun k' => QT k' M5 else QT false M3 := rfl
@[simp] theorem t_var : dT Γ (.var n) W δ M QT = opt δ[n]? fun o => opt o fun d => dTru d M fun k => QT k M := rfl
@[simp] theorem t_cst : dT Γ (.cst d) W δ M QT = dTru d M fun k => QT k M := rfl
@[simp] theorem t_bin {op : Operator} : dT Γ (.bin op a b) W δ M QT = dE Γ a W δ M fun x M1 => dE Γ b W δ M1 fun y M2 => wBin op x y M2 fun z M3 => dTru z M3 fun k => QT k M3 := rfl
@[simp] theorem t_idx : dT Γ (.idx a b) W δ M QT = dE Γ a W δ M fun x M1 => dE Γ b W δ M1 fun y M2 => wIdx x y M2 fun z M3 => dTru z M3 fun k => QT k M3 := rfl
@[simp] theorem t_call : dT Γ (.call j as) W δ M QT = dA Γ as W δ M fun ds M1 => opt Γ[j]? fun φ => φ ds M1 (fun z M3 => dTru z M3 fun k => QT k M3) fun x fs M' => W x fs δ M' := rfl
@[simp] theorem t_calv : dT Γ (.calv n as) W δ M QT = opt δ[n]? fun o => opt o fun f => opt (fnOf f) fun j => opt Γ[j]? fun φ => dA Γ as W δ M fun ds M1 => φ ds M1 (fun z M3 => dTru z M3 fun k => QT k M3) fun x fs M' => W x fs δ M' := rfl
@[simp] theorem t_blt {bi : Bi} : dT Γ (.blt bi as) W δ M QT = dA Γ as W δ M fun ds M1 => wBlt bi ds M1 fun z M3 => dTru z M3 fun k => QT k M3 := rfl
@[simp] theorem a_nil : dA Γ .nil W δ M QA = QA [] M := rfl
@[simp] theorem a_cons : dA Γ (.cons a as) W δ M QA = dE Γ a W δ M fun d M1 => dA Γ as W δ M1 fun ds M2 => QA (d :: ds) M2 := rfl
@[simp] theorem o_none : dO Γ .none W δ M QO = QO none M := rfl
def intQ (d : D) (k : Int → Prop) : Prop := match d with
  | .int i => k i
  | _ => False
@[simp] theorem intQ_int {k : Int → Prop} : intQ (.int u) k = k u := rfl
@[simp] theorem o_some : dO Γ (.some a) W δ M QO = dE Γ a W δ M fun d M1 => intQ d fun i => QO (some i) M1 := rfl
@[simp] theorem i_rng1 : dI Γ (.rng1 a) W δ M QI = dE Γ a W δ M fun x M1 => rg1 x fun ds => QI ds (fun _ => True) M1 := rfl
@[simp] theorem i_rng2 : dI Γ (.rng2 a b) W δ M QI = dE Γ a W δ M fun x M1 => dE Γ b W δ M1 fun y M2 => rg2 x y fun ds => QI ds (fun _ => True) M2 := rfl
@[simp] theorem i_rng3 : dI Γ (.rng3 a b c) W δ M QI = dE Γ a W δ M fun x M1 => dE Γ b W δ M1 fun y M2 => dE Γ c W δ M2 fun z M3 => rg3 x y z fun ds => QI ds (fun _ => True) M3 := rfl
@[simp] theorem i_val : dI Γ (.val a) W δ M QI = dE Γ a W δ M fun x M1 => opt (itM M1 x) fun ds => ds.length ≤ sizeLine → QI ds (chk x ds) M1 := rfl
@[simp] theorem s_pas : dS Γ xm .pas W E δ M = E.nx δ M := rfl
@[simp] theorem s_brk : dS Γ xm .brk W E δ M = E.bk δ M := rfl
@[simp] theorem s_cnt : dS Γ xm .cnt W E δ M = E.ct δ M := rfl
@[simp] theorem s_set : dS Γ xm (.set n e) W E δ M = dE Γ e W δ M fun d M1 => E.nx (δ.set n (some d)) M1 := rfl
@[simp] theorem s_asg {tg : Tg} : dS Γ xm (.asg tg e) W E δ M = dE Γ e W δ M fun d M1 => wTg tg d M1 δ fun δ1 => E.nx δ1 M1 := rfl
@[simp] theorem s_par : dS Γ xm (.par n j a b) W E δ M = dE Γ a W δ M fun x M1 => dE Γ b W δ M1 fun y M2 => E.nx ((δ.set n (some x)).set j (some y)) M2 := rfl
@[simp] theorem s_par3 : dS Γ xm (.par3 n j l a b c) W E δ M = dE Γ a W δ M fun x M1 => dE Γ b W δ M1 fun y M2 => dE Γ c W δ M2 fun z M3 => E.nx (((δ.set n (some x)).set j (some y)).set l (some z)) M3 := rfl
@[simp] theorem s_sub : dS Γ xm (.sub o i e) W E δ M = dE Γ e W δ M fun d M1 => dE Γ o W δ M1 fun x M2 => dE Γ i W δ M2 fun y M3 => wSub x y d M3 fun M4 => E.nx δ M4 := rfl
@[simp] theorem s_aug {op : Operator} : dS Γ xm (.aug n op e) W E δ M = opt δ[n]? fun o => opt o fun x => dE Γ e W δ M fun y M1 => wAug op x y M1 fun z M2 => E.nx (δ.set n (some z)) M2 := rfl
@[simp] theorem s_drp : dS Γ xm (.drp e) W E δ M = dE Γ e W δ M fun _ M1 => E.nx δ M1 := rfl
@[simp] theorem s_ret : dS Γ xm (.ret e) W E δ M = dE Γ e W δ M fun d M1 => E.rt d M1 := rfl
@[simp] theorem s_retN : dS Γ xm .retN W E δ M = E.rt .non M := rfl
@[simp] theorem s_ite : dS Γ xm (.ite c p q) W E δ M = dT Γ c W δ M fun k M1 => if k = true then dSs Γ xm p W E δ M1 else dSs Γ xm q W E δ M1 := rfl
@[simp] theorem s_for {tg : Tg} {it : It} : dS Γ xm (.for_ tg it p) W E δ M = dI Γ it W δ M fun ds ch M1 => forGo (fun d E δ M => wTg tg d M δ fun δ1 => dSs Γ xm p W E δ1 M) ch E ds δ M1 := rfl
theorem s_whl : dS Γ xm (.whl c p) W E δ M = whlGo (fun δ M Q => dT Γ c W δ M Q) (fun E δ M => dSs Γ xm p W E δ M) E δ M := rfl
@[simp] theorem s_rse : dS Γ xm (.rse n) W E δ M = W n [] δ M := rfl
@[simp] theorem s_try1 : dS Γ xm (.try1 p n q) W E δ M = dSs Γ xm p (fun j fs δ' M' => opt (xm j n) fun k => if k = true then dSs Γ xm q W0 E δ' M' else W j fs δ' M') E δ M := rfl
@[simp] theorem ss_nil : dSs Γ xm .nil W E δ M = E.nx δ M := rfl
@[simp] theorem ss_cons : dSs Γ xm (.cons s r) W E δ M = dS Γ xm s W { nx := fun δ' M' => dSs Γ xm r W E δ' M', rt := E.rt, bk := E.bk, ct := E.ct } δ M := rfl
@[simp] theorem opt_s {α : Type} {a : α} {f : α → Prop} : opt (some a) f = f a := rfl
@[simp] theorem opt_n {α : Type} {f : α → Prop} : opt none f = False := rfl
-- operators
@[simp] theorem bin_add : wBin .Add (.int u) (.int v) M Q = Q (.int (u + v)) M := rfl
@[simp] theorem bin_adds : wBin .Add (.str sa) (.str sb) M Q = (sa.length + sb.length ≤ sizeLine ∧ Q (.str (sa ++ sb)) M) := rfl
@[simp] theorem bin_addt : wBin .Add (.tup xs) (.tup ys) M Q = (xs.length + ys.length ≤ sizeLine ∧ Q (.tup (xs ++ ys)) M) := rfl
@[simp] theorem bin_sub : wBin .Sub (.int u) (.int v) M Q = Q (.int (u - v)) M := rfl
@[simp] theorem bin_mul : wBin .Mult (.int u) (.int v) M Q = (IntMulOk u v ∧ Q (.int (u * v)) M) := rfl
@[simp] theorem bin_div : wBin .FloorDiv (.int u) (.int v) M Q = (CDv u v ∧ Q (.int (u.fdiv v)) M) := rfl
@[simp] theorem bin_mod : wBin .Mod (.int u) (.int v) M Q = (v ≠ 0 ∧ Q (.int (u.fmod v)) M) := rfl
@[simp] theorem bin_shl : wBin .LShift (.int u) (.int v) M Q = (CShl u v ∧ Q (.int (u * 2 ^ v.toNat)) M) := rfl
@[simp] theorem bin_pow : wBin .Pow (.int u) (.int v) M Q = (CPow u v ∧ Q (.int (u ^ v.toNat)) M) := rfl
@[simp] theorem aug_add : wAug .Add (.int u) (.int v) M Q = Q (.int (u + v)) M := rfl
@[simp] theorem aug_adds : wAug .Add (.str sa) (.str sb) M Q = (sa.length + sb.length ≤ sizeLine ∧ Q (.str (sa ++ sb)) M) := rfl
@[simp] theorem aug_sub : wAug .Sub (.int u) (.int v) M Q = Q (.int (u - v)) M := rfl
@[simp] theorem aug_mul : wAug .Mult (.int u) (.int v) M Q = (IntMulOk u v ∧ Q (.int (u * v)) M) := rfl
@[simp] theorem aug_div : wAug .FloorDiv (.int u) (.int v) M Q = (CDv u v ∧ Q (.int (u.fdiv v)) M) := rfl
@[simp] theorem aug_mod : wAug .Mod (.int u) (.int v) M Q = (v ≠ 0 ∧ Q (.int (u.fmod v)) M) := rfl
@[simp] theorem aug_shl : wAug .LShift (.int u) (.int v) M Q = (CShl u v ∧ Q (.int (u * 2 ^ v.toNat)) M) := rfl
@[simp] theorem neg_int : wNeg (.int u) M Q = Q (.int (-u)) M := rfl
@[simp] theorem bits_int : wBits (.int u) M Q = Q (.int (Builtin.Int.intBits u : Nat)) M := rfl
@[simp] theorem chn_bl {f : Bool → Prop} : wChn (.bl kb) f = f kb := rfl
@[simp] theorem fnOf_fn : fnOf (.fn n) = some n := rfl
-- comparisons
@[simp] theorem cmp_eq : wCmp .Eq x y M Q = wEq x y M fun b => Q (.bl b) M := rfl
@[simp] theorem cmp_ne : wCmp .NotEq x y M Q = wEq x y M fun b => Q (.bl (!b)) M := rfl
@[simp] theorem cmp_lt : wCmp .Lt (.int u) (.int v) M Q = Q (.bl (decide (u < v))) M := rfl
@[simp] theorem cmp_le : wCmp .LtE (.int u) (.int v) M Q = Q (.bl (decide (u ≤ v))) M := rfl
@[simp] theorem cmp_gt : wCmp .Gt (.int u) (.int v) M Q = Q (.bl (decide (v < u))) M := rfl
@[simp] theorem cmp_ge : wCmp .GtE (.int u) (.int v) M Q = Q (.bl (decide (v ≤ u))) M := rfl
@[simp] theorem cmp_is : wCmp .Is x y M Q = wIs x y fun b => Q (.bl b) M := rfl
@[simp] theorem cmp_isn : wCmp .IsNot x y M Q = wIs x y fun b => Q (.bl (!b)) M := rfl
@[simp] theorem cmp_in : wCmp .In x y M Q = wIn x y M fun b => Q (.bl b) M := rfl
@[simp] theorem cmp_nin : wCmp .NotIn x y M Q = wIn x y M fun b => Q (.bl (!b)) M := rfl
@[simp] theorem eq_ii : wEq (.int u) (.int v) M k = k (decide (u = v)) := rfl
@[simp] theorem eq_ss : wEq (.str sa) (.str sb) M k = k (decide (sa = sb)) := rfl
@[simp] theorem eq_bb : wEq (.bl kb) (.bl kc) M k = k (decide (kb = kc)) := rfl
@[simp] theorem eq_nn : wEq .non .non M k = k true := rfl
@[simp] theorem is_non : wIs x .non k = k (isNon x) := by cases x <;> rfl
@[simp] theorem is_bl : wIs (.bl kb) (.bl kc) k = k (decide (kb = kc)) := rfl
@[simp] theorem non_non : isNon .non = true := rfl
@[simp] theorem non_int : isNon (.int u) = false := rfl
@[simp] theorem non_bl : isNon (.bl kb) = false := rfl
@[simp] theorem non_str : isNon (.str sa) = false := rfl
@[simp] theorem non_tup : isNon (.tup xs) = false := rfl
@[simp] theorem non_lst : isNon (.lst xs) = false := rfl
@[simp] theorem in_str : wIn (.str sa) (.str sb) M k = k (!(Builtin.Str.occurrences sb sa 0 sb.length 1).isEmpty) := rfl
theorem in_tup : wIn x (.tup ys) M k = (flatD x = true ∧ ys.all flatD = true ∧ k (ys.any fun d => eqF d x)) := by
  show (∃ ds, some ys = some ds ∧ flatD x = true ∧ ds.all flatD = true ∧ k (ds.any fun d => eqF d x)) = _
  exact propext ⟨fun ⟨_, e, h⟩ => by cases e; exact h, fun h => ⟨_, rfl, h⟩⟩
theorem in_lst : wIn x (.lst ys) M k = (flatD x = true ∧ ys.all flatD = true ∧ k (ys.any fun d => eqF d x)) := by
  show (∃ ds, some ys = some ds ∧ flatD x = true ∧ ds.all flatD = true ∧ k (ds.any fun d => eqF d x)) = _
  exact propext ⟨fun ⟨_, e, h⟩ => by cases e; exact h, fun h => ⟨_, rfl, h⟩⟩
-- truth
@[simp] theorem tru_non : dTru .non M k = k false := rfl
@[simp] theorem tru_bl : dTru (.bl kb) M k = k kb := rfl
@[simp] theorem tru_int : dTru (.int u) M k = k (u != 0) := rfl
@[simp] theorem tru_str : dTru (.str sa) M k = k ((sa.length : Int) != 0) := rfl
@[simp] theorem tru_tup : dTru (.tup xs) M k = k (!xs.isEmpty) := rfl
@[simp] theorem tru_lst : dTru (.lst xs) M k = k (!xs.isEmpty) := rfl
-- items
@[simp] theorem sqM_tup : sqM M (.tup xs) = some xs := rfl
@[simp] theorem sqM_lst : sqM M (.lst xs) = some xs := rfl
@[simp] theorem lsM_lst : lsM M (.lst xs) = some xs := rfl
theorem lsM_ref {p : Addr} (h : M p = some (.lst xs)) : lsM M (.ref p) = some xs := by
  show (match M p with
    | some (.lst ds) => some ds
    | _ => none) = some xs
  rw [h]
theorem sqM_ref {p : Addr} (h : M p = some (.lst xs)) : sqM M (.ref p) = some xs := lsM_ref h
@[simp] theorem lsM_put {p : Addr} : lsM (M.put p (.lst xs)) (.ref p) = some xs := lsM_ref Mem.put_same
@[simp] theorem sqM_put {p : Addr} : sqM (M.put p (.lst xs)) (.ref p) = some xs := lsM_ref Mem.put_same
@[simp] theorem itM_tup : itM M (.tup xs) = some xs := rfl
@[simp] theorem itM_lst : itM M (.lst xs) = some xs := rfl
@[simp] theorem itM_ref {p : Addr} : itM M (.ref p) = lsM M (.ref p) := rfl
@[simp] theorem itM_str : itM M (.str sa) = some (sa.cps.toList.map fun c => .str ⟨#[c]⟩) := rfl
@[simp] theorem chk_tup : chk (.tup xs) ys M = True := rfl
@[simp] theorem chk_lst : chk (.lst xs) ys M = True := rfl
@[simp] theorem chk_str : chk (.str sa) ys M = True := rfl
@[simp] theorem idx_tup : wIdx (.tup xs) (.int u) M Q = opt (atI xs u) fun d => Q d M := rfl
@[simp] theorem idx_lst : wIdx (.lst xs) (.int u) M Q = opt (atI xs u) fun d => Q d M := rfl
@[simp] theorem idx_ref {p : Addr} : wIdx (.ref p) (.int u) M Q = opt (lsM M (.ref p)) fun ds => opt (atI ds u) fun d => Q d M := rfl
@[simp] theorem idx_str : wIdx (.str sa) (.int u) M Q = opt (atI sa.cps.toList u) fun c => Q (.str ⟨#[c]⟩) M := rfl
theorem at_nat {α : Type} {l : List α} {n : Nat} : atI l (n : Int) = l[n]? := by
  unfold atI ixN
  by_cases h : n < l.length
  · rw [if_pos (by omega), if_pos (by omega)]; rfl
  · rw [if_pos (by omega), if_neg (by omega), List.getElem?_eq_none (by omega)]; rfl
@[simp] theorem at_0 {α : Type} {a : α} {l : List α} : atI (a :: l) 0 = some a := (at_nat (n := 0)).trans rfl
@[simp] theorem at_1 {α : Type} {a : α} {l : List α} : atI (a :: l) 1 = l[0]? := (at_nat (n := 1)).trans rfl
@[simp] theorem at_2 {α : Type} {a b : α} {l : List α} : atI (a :: b :: l) 2 = l[0]? := (at_nat (n := 2)).trans rfl
@[simp] theorem at_3 {α : Type} {a b c : α} {l : List α} : atI (a :: b :: c :: l) 3 = l[0]? := (at_nat (n := 3)).trans rfl
@[simp] theorem at_4 {α : Type} {a b c d : α} {l : List α} : atI (a :: b :: c :: d :: l) 4 = l[0]? := (at_nat (n := 4)).trans rfl
@[simp] theorem ixN_0 {n : Nat} : ixN (n + 1) 0 = some 0 := by unfold ixN; rw [if_pos (by decide), if_pos (by omega)]; rfl
theorem ixN_nat {n j : Nat} (h : j < n) : ixN n (j : Int) = some j := by unfold ixN; rw [if_pos (by omega), if_pos (by omega)]; rfl
@[simp] theorem slc_str {lo hi : Option Int} : wSlc (.str sa) lo hi M Q = Q (.str (cutS sa lo hi)) M := rfl
@[simp] theorem slc_tup {lo hi : Option Int} : wSlc (.tup xs) lo hi M Q = Q (.tup (cutD xs lo hi)) M := rfl
@[simp] theorem slc_lst {lo hi : Option Int} : wSlc (.lst xs) lo hi M Q = Q (.lst (cutD xs lo hi)) M := rfl
@[simp] theorem slc_ref {p : Addr} {lo hi : Option Int} : wSlc (.ref p) lo hi M Q = opt (lsM M (.ref p)) fun ds => Q (.lst (cutD ds lo hi)) M := rfl
theorem cut_from (n : Nat) : cutD xs (some (n : Int)) none = xs.drop n := by
  unfold cutD
  rw [HT.sIx_nat, HT.sIx_none]
  by_cases h : n ≤ xs.length
  · rw [Nat.min_eq_left h, List.take_of_length_le (by simp)]
  · rw [Nat.min_eq_right (by omega), List.drop_length, List.drop_eq_nil_of_le (by omega)]; simp
@[simp] theorem cut_1 : cutD xs (some 1) none = xs.drop 1 := cut_from 1
@[simp] theorem cut_2 : cutD xs (some 2) none = xs.drop 2 := cut_from 2
theorem cut_to (n : Nat) : cutD xs none (some (n : Int)) = xs.take n := by
  unfold cutD
  rw [HT.sIx_nat, HT.sIx_none]
  by_cases h : n ≤ xs.length
  · rw [Nat.min_eq_left h]; simp
  · rw [Nat.min_eq_right (by omega)]; simp; rw [List.take_of_length_le (by omega)]
@[simp] theorem cut_t1 : cutD xs none (some 1) = xs.take 1 := cut_to 1
@[simp] theorem cut_t2 : cutD xs none (some 2) = xs.take 2 := cut_to 2
@[simp] theorem app_put {p : Addr} : wApp (.ref p) y (M.put p (.lst xs)) Q = (xs.length < sizeLine ∧ Q .non (M.put p (.lst (xs ++ [y])))) := by
  show (opt ((M.put p (.lst xs)) p) fun o => _) = _
  rw [Mem.put_same, opt_s]
  show (xs.length < sizeLine ∧ Q .non ((M.put p (.lst xs)).put p (.lst (xs ++ [y])))) = _
  rw [Mem.put_put]
theorem app_ref {p : Addr} (h : M p = some (.lst xs)) : wApp (.ref p) y M Q = (xs.length < sizeLine ∧ Q .non (M.put p (.lst (xs ++ [y])))) := by
  show (opt (M p) fun o => _) = _
  rw [h] <;> rfl
theorem sub_ref {p : Addr} {km : Mem → Prop} (h : M p = some (.lst xs)) : wSub (.ref p) (.int u) d M km = opt (ixN xs.length u) fun j => km (M.put p (.lst (xs.set j d))) := by
  show (opt (M p) fun o => _) = _
  rw [h] <;> rfl
-- built-ins
@[simp] theorem len_str : wBlt .len [.str sa] M Q = Q (.int sa.length) M := rfl
@[simp] theorem len_tup : wBlt .len [.tup xs] M Q = Q (.int xs.length) M := rfl
@[simp] theorem len_lst : wBlt .len [.lst xs] M Q = Q (.int xs.length) M := rfl
@[simp] theorem len_ref {p : Addr} : wBlt .len [.ref p] M Q = opt (lsM M (.ref p)) fun ds => Q (.int ds.length) M := rfl
@[simp] theorem abs_int : wBlt .abs [.int u] M Q = Q (.int (if u < 0 then -u else u)) M := rfl
@[simp] theorem int_int : wBlt .int [.int u] M Q = Q (.int u) M := rfl
@[simp] theorem int_bl : wBlt .int [.bl kb] M Q = Q (.int (if kb then 1 else 0)) M := rfl
@[simp] theorem isi {ty : String} : wBlt .isinst [x, .ty ty] M Q = opt (tyM M x) fun t => opt (kitB t ty) fun k => Q (.bl k) M := by cases x <;> rfl
@[simp] theorem list_q : wBlt .list [x] M Q = opt (sqM M x) fun ds => Q (.lst ds) M := by cases x <;> rfl
@[simp] theorem tuple_q : wBlt .tuple [x] M Q = opt (sqM M x) fun ds => Q (.tup ds) M := by cases x <;> rfl
@[simp] theorem max_int : wBlt .max [.int u, .int v] M Q = Q (.int (if v > u then v else u)) M := rfl
@[simp] theorem min_int : wBlt .min [.int u, .int v] M Q = Q (.int (if v < u then v else u)) M := rfl
@[simp] theorem sum_q : wBlt .sum [x] M Q = opt (lsM M x) fun ds => opt (intsD ds) fun ns => Q (.int ns.sum) M := by cases x <;> rfl
@[simp] theorem all_q : wBlt .all [x] M Q = opt (lsM M x) fun ds => opt (blsD ds) fun ns => Q (.bl (ns.all id)) M := by cases x <;> rfl
@[simp] theorem any_q : wBlt .any [x] M Q = opt (lsM M x) fun ds => opt (blsD ds) fun ns => Q (.bl (ns.any id)) M := by cases x <;> rfl
@[simp] theorem bool_int : wBlt .bool [.int u] M Q = Q (.bl (u != 0)) M := rfl
@[simp] theorem bool_bl : wBlt .bool [.bl kb] M Q = Q (.bl kb) M := rfl
@[simp] theorem ty_non : tyM M .non = some "NoneType" := rfl
@[simp] theorem ty_bl : tyM M (.bl kb) = some "bool" := rfl
@[simp] theorem ty_int : tyM M (.int u) = some "int" := rfl
@[simp] theorem ty_str : tyM M (.str sa) = some "str" := rfl
@[simp] theorem ty_tup : tyM M (.tup xs) = some "tuple" := rfl
@[simp] theorem ty_lst : tyM M (.lst xs) = some "list" := rfl
-- what is walked, targets
@[simp] theorem rg1_int {kl : List D → Prop} : rg1 (.int u) kl = (small62 u ∧ kl (rngD 0 1 u.toNat)) := rfl
@[simp] theorem rg2_int {kl : List D → Prop} : rg2 (.int u) (.int v) kl = ((small62 u ∧ small62 v) ∧ kl (rngD u 1 (v - u).toNat)) := rfl
@[simp] theorem rg3_int {kl : List D → Prop} : rg3 (.int u) (.int v) (.int t) kl = ∃ n, RgC u v t n ∧ kl (rngD u t n) := rfl
@[simp] theorem tg_nm {ke : Ev → Prop} : wTg (.nm n) d M δ ke = ke (δ.set n (some d)) := rfl
@[simp] theorem tg_tp {ts : Tgs} {ke : Ev → Prop} : wTg (.tup ts) d M δ ke = opt (sqM M d) fun ds => ds.length = ts.len ∧ wTgs ts ds M δ ke := rfl
@[simp] theorem tgs_n {ke : Ev → Prop} : wTgs .nil [] M δ ke = ke δ := rfl
@[simp] theorem tgs_c {tg : Tg} {ts : Tgs} {ke : Ev → Prop} : wTgs (.cons tg ts) (d :: xs) M δ ke = wTg tg d M δ fun δ1 => wTgs ts xs M δ1 ke := rfl
@[simp] theorem tlen_n : Tgs.nil.len = 0 := rfl
@[simp] theorem tlen_c {tg : Tg} {ts : Tgs} : (Tgs.cons tg ts).len = ts.len + 1 := rfl
@[simp] theorem for_nil {st : D → WpS} {ch : Mem → Prop} : forGo st ch E [] δ M = (ch M ∧ E.nx δ M) := rfl
end
end DL
section
set_option maxHeartbeats 1000000
namespace DL
open PySem PySem.Spec PyProof.Rows L2
/-! ### the head's facts -/
/-- the facts of a text: ns its callables' names; xms: which class takes which -/
def faOf (p : PI) (ns : List Str) (xms : List (Nat × Nat × Bool)) : List He.Fa :=
  ns.map .glo ++ (ns.map .keep ++ (p.free.map .free ++ (p.exs.map .glo ++ (p.exs.map .exc ++ xms.map fun e => .exm (p.exs.getD e.1 "") (p.exs.getD e.2.1 "") e.2.2))))
def txOf (K : PySem.W.Frag) (p : PI) (cs : List Str) : Tx := { K := K, fA := fun j => He.ga K ((p.fns.map (·.1)).getD j ""), xA := fun j => He.ga K (p.exs.getD j ""), cA := fun j => He.ga K (cs.getD j "") }
def xmOf (xms : List (Nat × Nat × Bool)) : Nat → Nat → Option Bool := fun i j => (xms.find? fun e => e.1 == i && e.2.1 == j).map (·.2.2)
section
variable {fa : List He.Fa} {fn : List He.DefD} {K : PySem.W.Frag} {h : Heap} {mg : Str → Option Value} {p : PI} {ns cs : List Str} {xms : List (Nat × Nat × Bool)}
theorem fact_mem (c : He.SaysD fa fn K) {f : He.Fa} (h : f ∈ fa) : f.ok K = true := by
  obtain ⟨i, e⟩ := List.mem_iff_getElem?.mp h
  exact c.fact i e
theorem pok_of (X : K.In h) (G : h.Ns mainGlobals mg) (c : He.SaysD (faOf p ns xms) fn K) (hn : ∀ x, x ∈ p.fns.map (·.1) → x ∈ ns) (hg : p.glb = []) : Pok mg (txOf K p cs) p (xmOf xms) := by
  have fnm : ∀ j x n, p.fns[j]? = some (x, n) → (txOf K p cs).fA j = He.ga K x ∧ x ∈ ns := fun j x n e => by
    have e2 : (p.fns.map (·.1))[j]? = some x := by rw [List.getElem?_map, e]; rfl
    refine ⟨?_, hn x (List.mem_of_getElem? e2)⟩
    show He.ga K ((p.fns.map (·.1)).getD j "") = _
    rw [List.getD_eq_getElem?_getD, e2]; rfl
  have xmm : ∀ j x, p.exs[j]? = some x → p.exs.getD j "" = x := fun j x e => by rw [List.getD_eq_getElem?_getD, e]; rfl
  refine { fns := ?_, kp := ?_, free := ?_, glb := ?_, exc := ?_, xm := ?_ }
  · intro j x n e
    obtain ⟨e1, e2⟩ := fnm j x n e
    rw [e1]
    exact He.glo_ok X G (fact_mem c (by simp [faOf, e2]))
  · intro j x n e
    obtain ⟨e1, e2⟩ := fnm j x n e
    rw [e1]
    exact He.keep_ok (fact_mem c (by simp [faOf, e2]))
  · intro x e
    exact He.free_ok X G (fact_mem c (by simp [faOf, e]))
  · intro x d e
    rw [hg] at e; cases e
  · intro j x e
    have hx : x ∈ p.exs := List.mem_of_getElem? e
    have q1 : (txOf K p cs).xA j = He.ga K x := by show He.ga K (p.exs.getD j "") = _; rw [xmm j x e]
    rw [q1]
    obtain ⟨a, b, c', d⟩ := He.exc_ok (x := x) (fact_mem c (by simp [faOf, hx]))
    exact ⟨a, He.glo_ok X G (fact_mem c (by simp [faOf, hx])), b, c', d⟩
  · intro i j k e
    unfold xmOf at e
    cases q : xms.find? fun e => e.1 == i && e.2.1 == j with
    | none => rw [q] at e; cases e
    | some t =>
      rw [q] at e
      cases e
      have h1 := List.find?_some q
      have h2 := List.mem_of_find?_eq_some q
      simp at h1
      obtain ⟨rfl, rfl⟩ := h1
      exact He.exm_ok (fact_mem c (by unfold faOf; simp only [List.mem_append, List.mem_map]; exact .inr (.inr (.inr (.inr (.inr ⟨t, h2, rfl⟩))))))
end
/-! ### one def behind another -/
section
variable {P : Program} {w : World} {mg : Str → Option Value} {base : Heap} {T : Tx} {p : PI} {xm : Nat → Nat → Option Bool} {Γ : List DSp} {k : Nat}
def GOk (P : Program) (w : World) (mg : Str → Option Value) (base : Heap) (T : Tx) (k : Nat) (Γ : List DSp) : Prop := ∀ j φ, Γ[j]? = some φ → CalK P w mg base T k (T.fA j) φ
theorem GOk.nil : GOk P w mg base T k [] := fun j φ e => by simp at e
theorem GOk.mono {k' : Nat} (G : GOk P w mg base T k Γ) (l : k ≤ k') : GOk P w mg base T k' Γ := fun j φ e => (G j φ e).mono l
theorem GOk.snoc {φ : DSp} (G : GOk P w mg base T k Γ) (c : CalK P w mg base T (k + 1) (T.fA Γ.length) φ) : GOk P w mg base T (k + 1) (Γ ++ [φ]) := fun j ψ e => by
  by_cases h : j < Γ.length
  · rw [List.getElem?_append_left h] at e
    exact (G j ψ e).mono (Nat.le_succ k)
  · rw [List.getElem?_append_right (by omega)] at e
    have : j - Γ.length = 0 := by
      have := (List.getElem?_eq_some_iff.mp e).1
      simp at this; omega
    rw [this] at e
    cases e
    have : j = Γ.length := by omega
    rw [this]; exact c
theorem CalK.weak {f : Addr} {φ φ' : DSp} (h : CalK P w mg base T k f φ) (i : ∀ l M Q E, φ' l M Q E → φ l M Q E) : CalK P w mg base T k f φ' := by
  obtain ⟨fd, ps, us, dvs, dd, φ0, F, b, v, d, hl, hφ, kp⟩ := h
  exact ⟨fd, ps, us, dvs, dd, φ0, F, b, v, d, fun l M Q E q => hl l M Q E (i l M Q E q), fun l M Q E q => hφ l M Q E (i l M Q E q), kp⟩
variable {x : Str} {st : Stmt} {fd : FuncData} {f : Addr} {N ps : List Str} {mls : List (Nat × Nat)} {n : Nat} {ir : Srs} {φ : DSp}
/-- a def without defaults -/
theorem cal_D (Pk : Pok mg T p xm) (G : GOk P w mg base T k Γ) (F : FunD T.K x x (defArgs st) (defBody st) (defScope st) [] [] f fd) (S : FnScope N ps (defScope st)) (tr : trSs n (p.if_ N mls) (defScope st) (defBody st) = some ir)
    (b : ∀ (kV doc pm : Value) (an : Option Addr) (cdv ct : Value) (us : List Value), us.length = ps.length → bindArgs (PySem.W.fnOf x x (defArgs st) (defBody st) (defScope st) .none kV doc pm an cdv ct) ⟨us, []⟩ = pure (ps.zip us))
    (hl : ∀ l M Q E, φ l M Q E → l.length = ps.length) (h : ∀ ds M Q E, φ ds M Q E → dSs Γ xm ir (endW E) (endS Q) (startD N.length ds) M) : CalK P w mg base T (k + 1) f φ :=
  CalK.all (fn_D F S Pk G tr fun ds M Q E q _ => h ds M Q E q) (F.bindsN b) F.kp hl
/-- a def with defaults, j of them left out: n values given -/
theorem cal_DD {dvs : List V} {dd : List D} {φ0 : DSp} (m j : Nat) (Pk : Pok mg T p xm) (G : GOk P w mg base T k Γ) (F : FunD T.K x x (defArgs st) (defBody st) (defScope st) dvs [] f fd) (S : FnScope N ps (defScope st)) (tr : trSs n (p.if_ N mls) (defScope st) (defBody st) = some ir)
    (hd : dvs ≠ []) (hm : m + (dvs.length - j) = ps.length) (b : ∀ (D : Addr) (kV doc pm : Value) (an : Option Addr) (cdv ct : Value) (us its : List Value), us.length = m → its.length = dvs.length →
      ∃ k, bindArgs (PySem.W.fnOf x x (defArgs st) (defBody st) (defScope st) (.ref D) kV doc pm an cdv ct) ⟨us, []⟩ = seqItems? (.ref D) >>= k ∧ k (some its.toArray) = pure (ps.zip (us ++ its.drop j)))
    (dn : ∀ H, DenL T H (dvs.drop j) dd) (hl : ∀ l M Q E, φ l M Q E → l.length = m) (hφ : ∀ l M Q E, φ l M Q E → φ0 (l ++ dd) M Q E) (h : ∀ ds M Q E, φ0 ds M Q E → dSs Γ xm ir (endW E) (endS Q) (startD N.length ds) M) : CalK P w mg base T (k + 1) f φ := by
  obtain ⟨us, hv, hb⟩ := F.binds1 m j hd hm b
  exact ⟨fd, ps, us, dvs.drop j, dd, φ0, fn_D F S Pk G tr fun ds M Q E q _ => h ds M Q E q, hb, hv, dn, fun l M Q E q => by rw [hl l M Q E q, List.length_drop]; exact hm, hφ, F.kp⟩
end
/-! ### the end -/
/-- what a call may let out, whatever the text and the world -/
def CXE : CXT := fun outer H s E u s' => ∃ P w, L2.CX P w outer H s E u s'
theorem CXE.no (H : Hp) (s : Shared) (e : Value) (s' : Shared) (h : CXE [] H s (fun _ _ _ => False) e s') : False := by
  obtain ⟨P, w, a, B, H', cls, d, _, _, _, _, _, _, _, z⟩ := h
  exact z
theorem fn_any {P : Program} {w : World} {K : PySem.W.Frag} {mg : Str → Option Value} {base : Heap} {k : Nat} {f : Addr} {fd : FuncData} {ps : List Str} {sp : Sp} (F : FnOk P w K mg base (L2.CX P w) k f fd ps sp) : FnOk P w K mg base CXE k f fd ps sp :=
  ⟨F.len, fun A outer s H args us vs Q E hr he hb hv hs => codeAny_mono (F.run A outer s H args us vs Q E hr he hb hv hs) fun r s' c => by
    unfold CR at c ⊢
    split at c
    · exact c
    · exact c
    · exact ⟨P, w, c⟩⟩
/-- a law's contract -/
def φ_law : DSp := fun l M Q _ => ∃ ns : List Int, ns.length ≤ 63 ∧ l = [.lst (ns.map .int)] ∧ ∀ M', Q (.bl true) M'
theorem den_ints {T : Tx} {H : Hp} : ∀ ns : List Int, DenL T H (ns.map V.int) (ns.map D.int)
  | [] => .nil
  | n :: ns => .cons (.int n) (den_ints ns)
theorem law_sp {T : Tx} {H : Hp} {a : Addr} {ns : List Int} (hl : ns.length ≤ 63) (ho : Only H) (hs : SqL T.K H a (ns.map V.int)) : liftSp T 1 φ_law [.ref a] H (fun v _ => v = .bl true) fun _ _ _ => False := by
  have hf : FzL T.K H a (ns.map V.int) := by
    rcases hs with (h | ⟨o, h⟩) | h
    · rcases ho a with e | ⟨o, xs, e⟩
      · rw [e] at h; cases h
      · rw [e] at h; cases h
    · exact .inl ⟨o, h⟩
    · exact .inr h
  refine ⟨[.lst (ns.map .int)], Mem.none, fun d _ => d = .bl true, fun _ _ _ => False, rfl, .cons (.lst hf (den_ints ns)) .nil, MemOk.none, ⟨ns, hl, rfl, fun _ => rfl⟩, ?_, fun _ _ _ _ _ _ _ _ z => z⟩
  intro v H' d M' _ _ hd e
  subst e
  cases hd
  rfl
end DL
end
namespace U
open PySem PySem.Spec PyProof.Rows L2 DL
/-! ### sizes -/
theorem bits_le {a : Int} {m : Nat} (h : a.natAbs < 2 ^ m) : Builtin.Int.intBits a ≤ m := by
  unfold Builtin.Int.intBits
  split
  · exact Nat.zero_le _
  · rename_i h0
    have : a.natAbs ≠ 0 := by simpa using h0
    have := (Nat.log2_lt this).mpr h
    omega
theorem mulOk {a b : Int} {m n : Nat} (ha : a.natAbs < 2 ^ m) (hb : b.natAbs < 2 ^ n) (h : m + n ≤ 134217728) : IntMulOk a b := mulOk_of_bits (bits_le ha) (bits_le hb) h
theorem cdv {i j : Int} (h : j ≠ 0) (hs : j.natAbs < 2 ^ 9000) : CDv i j := by
  refine ⟨h, ?_⟩
  unfold Builtin.divisionGoesByPylong
  have h0 : j.natAbs ≠ 0 := by omega
  have := (Nat.log2_lt h0).mpr hs
  have h2 : (j == 0) = false := by simpa using h
  simp only [h2]
  have : ¬ (300 < j.natAbs.log2 / 30 + 1) := by omega
  simp [this]
theorem pow_mono {m n k : Nat} (h : k < 2 ^ m) (l : m ≤ n) : k < 2 ^ n := Nat.lt_of_lt_of_le h (Nat.pow_le_pow_right (by decide) l)
theorem mul_lt {a b m n : Nat} (ha : a < 2 ^ m) (hb : b < 2 ^ n) : a * b < 2 ^ (m + n) := by
  rw [Nat.pow_add]
  exact Nat.mul_lt_mul'' ha hb
/-! ### fractions -/
def rt (q : Rat) : D := .tup [.int q.num, .int q.den]
theorem rt_inj {p q : Rat} : rt p = rt q ↔ p = q := by
  constructor
  · intro h
    unfold rt at h
    injection h with h
    injection h with h1 h2
    injection h1 with h1
    injection h2 with h2 _
    injection h2 with h2
    exact Rat.ext h1 (by omega)
  · rintro rfl; rfl
def Sz (n : Nat) (q : Rat) : Prop := q.num.natAbs < 2 ^ n ∧ q.den < 2 ^ n
theorem Sz.mono {m n : Nat} {q : Rat} (h : Sz m q) (l : m ≤ n) : Sz n q := ⟨pow_mono h.1 l, pow_mono h.2 l⟩
/-- where the data is a fraction -/
def onR (p : Rat → Prop) (d : D) : Prop := ∃ q, d = rt q ∧ p q
@[simp] theorem onR_rt {p : Rat → Prop} {q : Rat} : onR p (rt q) = p q := propext ⟨fun ⟨r, e, h⟩ => by rw [rt_inj] at e; rw [e]; exact h, fun h => ⟨q, rfl, h⟩⟩
theorem divInt_red {a : Int} {b : Nat} (h : 0 < b) (g : Int.gcd a b = 1) : (Rat.divInt a b).num = a ∧ (Rat.divInt a b).den = b := by
  have e : Rat.divInt a b = ⟨a, b, by omega, g⟩ := by
    rw [← Rat.num_divInt_den ⟨a, b, by omega, g⟩]
  rw [e]; exact ⟨rfl, rfl⟩
theorem rt_lit {a : Int} {b : Nat} (h : 0 < b) (g : Int.gcd a b = 1) : D.tup [.int a, .int b] = rt (Rat.divInt a b) := by
  unfold rt; rw [(divInt_red h g).1, (divInt_red h g).2]
theorem rt_01 : D.tup [.int 0, .int 1] = rt 0 := rfl
theorem rt_int (n : Int) : D.tup [.int n, .int 1] = rt (n : Rat) := rfl
section
variable {M : Mem} {Q : QD} {q : Rat}
@[simp] theorem idx_rt0 : wIdx (rt q) (.int 0) M Q = Q (.int q.num) M := rfl
@[simp] theorem idx_rt1 : wIdx (rt q) (.int 1) M Q = Q (.int q.den) M := rfl
@[simp] theorem len_rt : wBlt .len [rt q] M Q = Q (.int 2) M := rfl
@[simp] theorem ty_rt : tyM M (rt q) = some "tuple" := rfl
@[simp] theorem sq_rt : sqM M (rt q) = some [.int q.num, .int q.den] := rfl
@[simp] theorem non_rt : isNon (rt q) = false := rfl
end
/-- the signed quotient by the common divisor -/
theorem quo_divInt {a b g : Int} (hb : b ≠ 0) (hg : g = if b < 0 then -(Int.gcd a b : Int) else Int.gcd a b) : D.tup [.int (a.fdiv g), .int (b.fdiv g)] = rt (Rat.divInt a b) := by
  have hp : 0 < Int.gcd a b := Int.gcd_pos_of_ne_zero_right a hb
  have da : (Int.gcd a b : Int) ∣ a := Int.gcd_dvd_left a b
  have db : (Int.gcd a b : Int) ∣ b := Int.gcd_dvd_right a b
  have ga : g ∣ a := by rw [hg]; split <;> simp [da]
  have gb : g ∣ b := by rw [hg]; split <;> simp [db]
  have gn : g ≠ 0 := by rw [hg]; split <;> omega
  have gna : g.natAbs = Int.gcd a b := by rw [hg]; split <;> omega
  have sg : (0 < b ∧ 0 < g) ∨ (b < 0 ∧ g < 0) := by
    rw [hg]; split
    · right; omega
    · left; omega
  obtain ⟨u, hu⟩ := ga
  obtain ⟨v, hv⟩ := gb
  have e1 : a.fdiv g = u := by rw [hu]; exact Int.mul_fdiv_cancel_left _ gn
  have e2 : b.fdiv g = v := by rw [hv]; exact Int.mul_fdiv_cancel_left _ gn
  rw [e1, e2]
  have vpos : 0 < v := by
    rcases sg with ⟨h1, h2⟩ | ⟨h1, h2⟩
    · rw [hv] at h1
      exact Int.pos_of_mul_pos_right h1 h2
    · rw [hv] at h1
      rcases Int.lt_trichotomy v 0 with q | q | q
      · have := Int.mul_pos_of_neg_of_neg h2 q; omega
      · rw [q] at h1; simp at h1
      · exact q
  have gc : Int.gcd u v = 1 := by
    have h1 : Int.gcd a b = g.natAbs * Int.gcd u v := by rw [hu, hv, Int.gcd_mul_left]
    rw [gna] at h1
    exact (Nat.eq_of_mul_eq_mul_left hp (by omega))
  obtain ⟨n, rfl⟩ := Int.eq_ofNat_of_zero_le (Int.le_of_lt vpos)
  have e3 : Rat.divInt a b = Rat.divInt u n := (Rat.divInt_eq_divInt_iff hb (by omega)).mpr (by rw [hu, hv]; grind)
  rw [e3]
  exact rt_lit (by omega) gc
theorem divInt_sz {a b : Int} {n : Nat} (hb : b ≠ 0) (h1 : a.natAbs < 2 ^ n) (h2 : b.natAbs < 2 ^ n) : Sz n (Rat.divInt a b) := by
  constructor
  · rw [Rat.num_divInt]
    refine Nat.lt_of_le_of_lt ?_ h1
    have := Int.natAbs_ediv_le_natAbs (b.sign * a) (b.gcd a : Int)
    refine Nat.le_trans this ?_
    rw [Int.natAbs_mul, Int.natAbs_sign_of_ne_zero hb]
    omega
  · rw [Rat.den_divInt, if_neg hb]
    exact Nat.lt_of_le_of_lt (Nat.div_le_self _ _) h2
end U
namespace U
open PySem PySem.Spec PyProof.Rows L2 DL
def ir_is_whole : Srs := (.cons (.ret (.and (.blt .isinst (.cons (.var 0) (.cons (.cst (.ty "int")) .nil))) (.not (.blt .isinst (.cons (.var 0) (.cons (.cst (.ty "bool")) .nil)))))) .nil)
def ir_shared_c1 : Ir := (.cmp .NotEq (.var 1) (.cst (.int 0)))
def ir_shared_b2 : Srs := (.cons (.par 0 1 (.var 1) (.bin .Mod (.var 0) (.var 1))) .nil)
def ir_shared : Srs := (.cons (.par 0 1 (.blt .abs (.cons (.var 0) .nil)) (.blt .abs (.cons (.var 1) .nil))) (.cons (.whl ir_shared_c1 ir_shared_b2) (.cons (.ret (.var 0)) .nil)))
def ir_fraction : Srs := (.cons (.ite (.or (.not (.call 0 (.cons (.var 0) .nil))) (.or (.not (.call 0 (.cons (.var 1) .nil))) (.cmp .Eq (.var 1) (.cst (.int 0))))) (.cons (.rse 0) .nil) .nil) (.cons (.set 2 (.call 1 (.cons (.var 0) (.cons (.var 1) .nil)))) (.cons (.set 2 (.ite (.cmp .Lt (.var 1) (.cst (.int 0))) (.neg (.var 2)) (.var 2))) (.cons (.ret (.tup (.cons (.bin .FloorDiv (.var 0) (.var 2)) (.cons (.bin .FloorDiv (.var 1) (.var 2)) .nil)))) .nil))))
def ir_is_fraction : Srs := (.cons (.ite (.or (.not (.blt .isinst (.cons (.var 0) (.cons (.cst (.ty "tuple")) .nil)))) (.or (.cmp .NotEq (.blt .len (.cons (.var 0) .nil)) (.cst (.int 2))) (.or (.not (.call 0 (.cons (.idx (.var 0) (.cst (.int 0))) .nil))) (.not (.call 0 (.cons (.idx (.var 0) (.cst (.int 1))) .nil)))))) (.cons (.ret (.cst (.bl false))) .nil) .nil) (.cons (.ret (.and (.cmp .Gt (.idx (.var 0) (.cst (.int 1))) (.cst (.int 0))) (.cmp .Eq (.call 1 (.cons (.idx (.var 0) (.cst (.int 0))) (.cons (.idx (.var 0) (.cst (.int 1))) .nil))) (.cst (.int 1))))) .nil))
def ir_plus : Srs := (.cons (.ret (.call 2 (.cons (.bin .Add (.bin .Mult (.idx (.var 0) (.cst (.int 0))) (.idx (.var 1) (.cst (.int 1)))) (.bin .Mult (.idx (.var 1) (.cst (.int 0))) (.idx (.var 0) (.cst (.int 1))))) (.cons (.bin .Mult (.idx (.var 0) (.cst (.int 1))) (.idx (.var 1) (.cst (.int 1)))) .nil)))) .nil)
def ir_minus : Srs := (.cons (.ret (.call 2 (.cons (.bin .Sub (.bin .Mult (.idx (.var 0) (.cst (.int 0))) (.idx (.var 1) (.cst (.int 1)))) (.bin .Mult (.idx (.var 1) (.cst (.int 0))) (.idx (.var 0) (.cst (.int 1))))) (.cons (.bin .Mult (.idx (.var 0) (.cst (.int 1))) (.idx (.var 1) (.cst (.int 1)))) .nil)))) .nil)
def ir_times : Srs := (.cons (.ret (.call 2 (.cons (.bin .Mult (.idx (.var 0) (.cst (.int 0))) (.idx (.var 1) (.cst (.int 0)))) (.cons (.bin .Mult (.idx (.var 0) (.cst (.int 1))) (.idx (.var 1) (.cst (.int 1)))) .nil)))) .nil)
def ir_over : Srs := (.cons (.ret (.call 2 (.cons (.bin .Mult (.idx (.var 0) (.cst (.int 0))) (.idx (.var 1) (.cst (.int 1)))) (.cons (.bin .Mult (.idx (.var 0) (.cst (.int 1))) (.idx (.var 1) (.cst (.int 0)))) .nil)))) .nil)
def ir_against : Srs := (.cons (.ret (.tup (.cons (.neg (.idx (.var 0) (.cst (.int 0)))) (.cons (.idx (.var 0) (.cst (.int 1))) .nil)))) .nil)
def ir_sized : Srs := (.cons (.ret (.tup (.cons (.blt .abs (.cons (.idx (.var 0) (.cst (.int 0))) .nil)) (.cons (.idx (.var 0) (.cst (.int 1))) .nil)))) .nil)
def ir_order : Srs := (.cons (.par 2 3 (.bin .Mult (.idx (.var 0) (.cst (.int 0))) (.idx (.var 1) (.cst (.int 1)))) (.bin .Mult (.idx (.var 1) (.cst (.int 0))) (.idx (.var 0) (.cst (.int 1))))) (.cons (.ret (.bin .Sub (.blt .int (.cons (.cmp .Gt (.var 2) (.var 3)) .nil)) (.blt .int (.cons (.cmp .Lt (.var 2) (.var 3)) .nil)))) .nil))
def ir_below : Srs := (.cons (.ret (.cmp .Lt (.call 11 (.cons (.var 0) (.cons (.var 1) .nil))) (.cst (.int 0)))) .nil)
def ir_at_most : Srs := (.cons (.ret (.cmp .LtE (.call 11 (.cons (.var 0) (.cons (.var 1) .nil))) (.cst (.int 0)))) .nil)
def ir_least_of_b1 : Srs := (.cons (.set 1 (.ite (.call 12 (.cons (.var 2) (.cons (.var 1) .nil))) (.var 2) (.var 1))) .nil)
def ir_least_of : Srs := (.cons (.set 1 (.idx (.var 0) (.cst (.int 0)))) (.cons (.for_ (.nm 2) (.val (.slc (.var 0) (.some (.cst (.int 1))) .none)) ir_least_of_b1) (.cons (.ret (.var 1)) .nil)))
def ir_most_of_e1 : Ir := (.call 9 (.cons (.var 1) .nil))
def ir_most_of : Srs := (.cons (.ret (.call 9 (.cons (.call 14 (.cons (.lc (.val (.var 0)) (.nm 1) (.cst (.bl true)) ir_most_of_e1 [1]) .nil)) .nil))) .nil)
def ir_floor : Srs := (.cons (.ret (.bin .FloorDiv (.idx (.var 0) (.cst (.int 0))) (.idx (.var 0) (.cst (.int 1))))) .nil)
def ir_ceiling : Srs := (.cons (.ret (.neg (.bin .FloorDiv (.neg (.idx (.var 0) (.cst (.int 0)))) (.idx (.var 0) (.cst (.int 1)))))) .nil)
def ir_power : Srs := (.cons (.ite (.cmp .GtE (.var 1) (.cst (.int 0))) (.cons (.ret (.tup (.cons (.call 18 (.cons (.var 0) (.cons (.var 1) .nil))) (.cons (.cst (.int 1)) .nil)))) .nil) .nil) (.cons (.ret (.ite (.cmp .Gt (.var 0) (.cst (.int 0))) (.tup (.cons (.cst (.int 1)) (.cons (.call 18 (.cons (.var 0) (.cons (.neg (.var 1)) .nil))) .nil))) (.call 2 (.cons (.cst (.int 1)) (.cons (.call 18 (.cons (.var 0) (.cons (.neg (.var 1)) .nil))) .nil))))) .nil))
def ir_raised_c1 : Ir := (.cmp .Gt (.var 1) (.cst (.int 0)))
def ir_raised_b2 : Srs := (.cons (.ite (.cmp .Eq (.bin .Mod (.var 1) (.cst (.int 2))) (.cst (.int 1))) (.cons (.set 2 (.bin .Mult (.var 2) (.var 3))) .nil) .nil) (.cons (.set 3 (.bin .Mult (.var 3) (.var 3))) (.cons (.aug 1 .FloorDiv (.cst (.int 2))) .nil)))
def ir_raised : Srs := (.cons (.par 2 3 (.cst (.int 1)) (.var 0)) (.cons (.whl ir_raised_c1 ir_raised_b2) (.cons (.ret (.var 2)) .nil)))
def ir_root_below_c1 : Ir := (.cst (.bl true))
def ir_root_below_b2 : Srs := (.cons (.set 2 (.bin .FloorDiv (.bin .Add (.var 1) (.bin .FloorDiv (.var 0) (.var 1))) (.cst (.int 2)))) (.cons (.ite (.cmp .GtE (.var 2) (.var 1)) (.cons (.ret (.var 1)) .nil) .nil) (.cons (.set 1 (.var 2)) .nil)))
def ir_root_below : Srs := (.cons (.ite (.cmp .Lt (.var 0) (.cst (.int 2))) (.cons (.ret (.var 0)) .nil) .nil) (.cons (.set 1 (.bin .LShift (.cst (.int 1)) (.bin .FloorDiv (.bin .Add (.bits (.var 0)) (.cst (.int 1))) (.cst (.int 2))))) (.cons (.whl ir_root_below_c1 ir_root_below_b2) .nil)))
def ir_digits_in_c1 : Ir := (.cmp .LtE (.idx (.var 2) (.neg (.cst (.int 1)))) (.var 0))
def ir_digits_in_b2 : Srs := (.cons (.drp (.app (.var 2) (.bin .Mult (.idx (.var 2) (.neg (.cst (.int 1)))) (.idx (.var 2) (.neg (.cst (.int 1))))))) .nil)
def ir_digits_in_b3 : Srs := (.cons (.ite (.cmp .LtE (.idx (.var 2) (.var 4)) (.var 0)) (.cons (.aug 0 .FloorDiv (.idx (.var 2) (.var 4))) (.cons (.aug 3 .Add (.bin .LShift (.cst (.int 1)) (.var 4))) .nil)) .nil) .nil)
def ir_digits_in : Srs := (.cons (.set 2 (.mls (.cons (.var 1) .nil))) (.cons (.whl ir_digits_in_c1 ir_digits_in_b2) (.cons (.set 3 (.cst (.int 0))) (.cons (.for_ (.nm 4) (.rng3 (.bin .Sub (.blt .len (.cons (.var 2) .nil)) (.cst (.int 1))) (.neg (.cst (.int 1))) (.neg (.cst (.int 1)))) ir_digits_in_b3) (.cons (.ret (.bin .Add (.var 3) (.ite (.cmp .Gt (.var 0) (.cst (.int 0))) (.cst (.int 1)) (.cst (.int 0))))) .nil)))))
def ir_law_draws : Srs := (.cons (.ret (.mls (.cons (.blt .list (.cons (.var 0) .nil)) (.cons (.cst (.int 0)) (.cons (.cst (.int 0)) (.cons (.cst (.int 1)) .nil)))))) .nil)
def ir_law_draw : Srs := (.cons (.ite (.and (.cmp .Eq (.idx (.var 0) (.cst (.int 2))) (.cst (.int 0))) (.cmp .Lt (.idx (.var 0) (.cst (.int 1))) (.blt .len (.cons (.idx (.var 0) (.cst (.int 0))) .nil)))) (.cons (.set 2 (.idx (.idx (.var 0) (.cst (.int 0))) (.idx (.var 0) (.cst (.int 1))))) (.cons (.sub (.var 0) (.cst (.int 1)) (.bin .Add (.idx (.var 0) (.cst (.int 1))) (.cst (.int 1)))) (.cons (.ite (.cmp .GtE (.var 2) (.bin .Pow (.cst (.int 10)) (.cst (.int 18)))) (.cons (.sub (.var 0) (.cst (.int 2)) (.var 2)) .nil) .nil) (.cons (.sub (.var 0) (.cst (.int 3)) (.bin .Mod (.blt .int (.cons (.bin .Add (.bin .Add (.bin .Mult (.idx (.var 0) (.cst (.int 3))) (.cst (.int 48271))) (.var 2)) (.cst (.int 13))) .nil)) (.cst (.int 2147483647)))) .nil)))) .nil) (.cons (.ite (.cmp .Gt (.idx (.var 0) (.cst (.int 2))) (.cst (.int 0))) (.cons (.set 3 (.bin .Mod (.blt .int (.cons (.idx (.var 0) (.cst (.int 2))) .nil)) (.var 1))) (.cons (.sub (.var 0) (.cst (.int 2)) (.bin .FloorDiv (.idx (.var 0) (.cst (.int 2))) (.var 1))) (.cons (.ret (.var 3)) .nil))) .nil) (.cons (.sub (.var 0) (.cst (.int 3)) (.bin .Mod (.blt .int (.cons (.bin .Add (.bin .Mult (.idx (.var 0) (.cst (.int 3))) (.cst (.int 69621))) (.cst (.int 7))) .nil)) (.cst (.int 2147483629)))) (.cons (.ret (.bin .Mod (.blt .int (.cons (.bin .FloorDiv (.idx (.var 0) (.cst (.int 3))) (.cst (.int 11))) .nil)) (.var 1))) .nil))))
def ir_law_same_t1 : Ir := (.not (.call 24 (.cons (.idx (.var 0) (.var 2)) (.cons (.idx (.var 1) (.var 2)) .nil))))
def ir_law_same_e2 : Ir := (.var 2)
def ir_law_same : Srs := (.cons (.ite (.or (.blt .isinst (.cons (.var 1) (.cons (.cst (.ty "tuple")) .nil))) (.blt .isinst (.cons (.var 1) (.cons (.cst (.ty "list")) .nil)))) (.cons (.ite (.or (.cmp .NotEq (.blt .isinst (.cons (.var 1) (.cons (.cst (.ty "tuple")) .nil))) (.blt .isinst (.cons (.var 0) (.cons (.cst (.ty "tuple")) .nil)))) (.cmp .NotEq (.blt .isinst (.cons (.var 1) (.cons (.cst (.ty "list")) .nil))) (.blt .isinst (.cons (.var 0) (.cons (.cst (.ty "list")) .nil))))) (.cons (.ret (.cst (.bl false))) .nil) .nil) (.cons (.ite (.cmp .NotEq (.blt .len (.cons (.var 0) .nil)) (.blt .len (.cons (.var 1) .nil))) (.cons (.ret (.cst (.bl false))) .nil) .nil) (.cons (.ret (.cmp .Eq (.blt .len (.cons (.lc (.rng1 (.blt .len (.cons (.var 1) .nil))) (.nm 2) ir_law_same_t1 ir_law_same_e2 [2]) .nil)) (.cst (.int 0)))) .nil))) .nil) (.cons (.ite (.blt .isinst (.cons (.var 1) (.cons (.cst (.ty "str")) .nil))) (.cons (.ret (.and (.blt .isinst (.cons (.var 0) (.cons (.cst (.ty "str")) .nil))) (.cmp .Eq (.var 0) (.var 1)))) .nil) .nil) (.cons (.ite (.cmp .Is (.var 1) (.cst .non)) (.cons (.ret (.cmp .Is (.var 0) (.cst .non))) .nil) .nil) (.cons (.ite (.or (.blt .isinst (.cons (.var 1) (.cons (.cst (.ty "bool")) .nil))) (.blt .isinst (.cons (.var 0) (.cons (.cst (.ty "bool")) .nil)))) (.cons (.ret (.and (.blt .isinst (.cons (.var 1) (.cons (.cst (.ty "bool")) .nil))) (.and (.blt .isinst (.cons (.var 0) (.cons (.cst (.ty "bool")) .nil))) (.cmp .Eq (.var 0) (.var 1))))) .nil) .nil) (.cons (.ret (.and (.blt .isinst (.cons (.var 0) (.cons (.cst (.ty "int")) .nil))) (.and (.blt .isinst (.cons (.var 1) (.cons (.cst (.ty "int")) .nil))) (.cmp .Eq (.var 0) (.var 1))))) .nil)))))
def ir_law_low_c1 : Ir := (.cmp .NotEq (.var 3) (.cst (.int 0)))
def ir_law_low_b2 : Srs := (.cons (.par 2 3 (.var 3) (.bin .Mod (.var 2) (.var 3))) .nil)
def ir_law_low : Srs := (.cons (.par 2 3 (.blt .abs (.cons (.var 0) .nil)) (.blt .abs (.cons (.var 1) .nil))) (.cons (.whl ir_law_low_c1 ir_law_low_b2) (.cons (.set 2 (.ite (.cmp .Gt (.var 1) (.cst (.int 0))) (.var 2) (.bin .Sub (.cst (.int 0)) (.var 2)))) (.cons (.ret (.tup (.cons (.bin .FloorDiv (.var 0) (.var 2)) (.cons (.bin .FloorDiv (.var 1) (.var 2)) .nil)))) .nil))))
def ir_law_bad : Srs := (.cons (.try1 (.cons (.drp (.calv 0 (.cons (.var 1) (.cons (.var 2) .nil)))) .nil) 0 (.cons (.ret (.cst (.bl true))) .nil)) (.cons (.ret (.cst (.bl false))) .nil))
def ir_law_k00_b1 : Srs := (.cons (.ite (.not (.call 24 (.cons (.calv 12 (.cons (.var 9) (.cons (.var 10) .nil))) (.cons (.call 25 (.cons (.var 13) (.cons (.var 14) .nil))) .nil)))) (.cons (.ret (.cst (.bl false))) .nil) .nil) .nil)
def ir_law_k00_b2 : Srs := (.cons (.set 20 (.bin .Mult (.var 20) (.var 18))) .nil)
def ir_law_k00_c3 : Ir := (.cmp .Gt (.var 15) (.cst (.int 0)))
def ir_law_k00_b4 : Srs := (.cons (.par 15 24 (.bin .FloorDiv (.var 15) (.var 18)) (.bin .Add (.var 24) (.cst (.int 1)))) .nil)
def ir_law_k00_k5 : Srs := (.cons (.ite (.or (.not (.call 24 (.cons (.call 21 (.cons (.var 22) (.cons (.var 18) .nil))) (.cons (.var 24) .nil)))) (.not (.call 24 (.cons (.call 1 (.cons (.var 3) (.cons (.var 4) .nil))) (.cons (.blt .abs (.cons (.bin .FloorDiv (.var 4) (.idx (.call 25 (.cons (.var 3) (.cons (.var 4) .nil))) (.cst (.int 1)))) .nil)) .nil))))) (.cons (.ret (.cst (.bl false))) .nil) .nil) .nil)
def ir_law_k00_k6 : Srs := (.cons (.whl ir_law_k00_c3 ir_law_k00_b4) ir_law_k00_k5)
def ir_law_k00_k7 : Srs := (.cons (.par 15 24 (.var 22) (.cst (.int 0))) ir_law_k00_k6)
def ir_law_k00_k8 : Srs := (.cons (.ite (.or (.not (.chn .LtE .Lt (.bin .Mult (.var 23) (.var 23)) (.var 22) (.bin .Mult (.bin .Add (.var 23) (.cst (.int 1))) (.bin .Add (.var 23) (.cst (.int 1)))))) (.not (.call 24 (.cons (.call 20 (.cons (.bin .Mult (.var 23) (.var 23)) .nil)) (.cons (.var 23) .nil))))) (.cons (.ret (.cst (.bl false))) .nil) .nil) ir_law_k00_k7)
def ir_law_k00_k9 : Srs := (.cons (.set 23 (.call 20 (.cons (.var 22) .nil))) ir_law_k00_k8)
def ir_law_k00_k10 : Srs := (.cons (.set 22 (.bin .Mult (.call 23 (.cons (.var 1) (.cons (.cst (.int 100000)) .nil))) (.call 23 (.cons (.var 1) (.cons (.cst (.int 100000)) .nil))))) ir_law_k00_k9)
def ir_law_k00_k11 : Srs := (.cons (.ite (.or (.not (.call 24 (.cons (.call 18 (.cons (.var 18) (.cons (.var 19) .nil))) (.cons (.var 20) .nil)))) (.or (.not (.call 24 (.cons (.call 19 (.cons (.var 18) (.cons (.var 19) .nil))) (.cons (.tup (.cons (.var 20) (.cons (.cst (.int 1)) .nil))) .nil)))) (.not (.call 24 (.cons (.call 19 (.cons (.var 18) (.cons (.bin .Sub (.cst (.int 0)) (.var 19)) .nil))) (.cons (.tup (.cons (.cst (.int 1)) (.cons (.var 20) .nil))) .nil)))))) (.cons (.ret (.cst (.bl false))) .nil) .nil) ir_law_k00_k10)
def ir_law_k00_k12 : Srs := (.cons (.for_ (.nm 21) (.rng1 (.var 19)) ir_law_k00_b2) ir_law_k00_k11)
def ir_law_k00_k13 : Srs := (.cons (.set 20 (.cst (.int 1))) ir_law_k00_k12)
def ir_law_k00_k14 : Srs := (.cons (.par 18 19 (.bin .Add (.cst (.int 2)) (.call 23 (.cons (.var 1) (.cons (.cst (.int 15)) .nil)))) (.call 23 (.cons (.var 1) (.cons (.cst (.int 9)) .nil)))) ir_law_k00_k13)
def ir_law_k00_k15 : Srs := (.cons (.ite (.or (.not (.chn .LtE .Lt (.bin .Mult (.var 17) (.var 4)) (.var 3) (.bin .Mult (.bin .Add (.var 17) (.cst (.int 1))) (.var 4)))) (.not (.call 24 (.cons (.call 17 (.cons (.var 9) .nil)) (.cons (.ite (.cmp .Eq (.bin .Mult (.var 17) (.var 4)) (.var 3)) (.var 17) (.bin .Add (.var 17) (.cst (.int 1)))) .nil))))) (.cons (.ret (.cst (.bl false))) .nil) .nil) ir_law_k00_k14)
def ir_law_k00_k16 : Srs := (.cons (.set 17 (.call 16 (.cons (.var 9) .nil))) ir_law_k00_k15)
def ir_law_k00_k17 : Srs := (.cons (.ite (.not (.call 24 (.cons (.call 15 (.cons (.tup (.cons (.var 9) (.cons (.var 10) .nil))) .nil)) (.cons (.ite (.cmp .Gt (.var 15) (.var 16)) (.var 9) (.ite (.cmp .Gt (.var 16) (.var 15)) (.var 10) (.var 9))) .nil)))) (.cons (.ret (.cst (.bl false))) .nil) .nil) ir_law_k00_k16)
def ir_law_k00_k18 : Srs := (.cons (.ite (.not (.call 24 (.cons (.call 14 (.cons (.lst (.cons (.var 9) (.cons (.var 10) .nil))) .nil)) (.cons (.ite (.cmp .Lt (.var 15) (.var 16)) (.var 9) (.ite (.cmp .Lt (.var 16) (.var 15)) (.var 10) (.var 9))) .nil)))) (.cons (.ret (.cst (.bl false))) .nil) .nil) ir_law_k00_k17)
def ir_law_k00_k19 : Srs := (.cons (.ite (.not (.call 24 (.cons (.tup (.cons (.call 9 (.cons (.var 9) .nil)) (.cons (.call 10 (.cons (.var 9) .nil)) .nil))) (.cons (.tup (.cons (.tup (.cons (.bin .Sub (.cst (.int 0)) (.idx (.var 9) (.cst (.int 0)))) (.cons (.idx (.var 9) (.cst (.int 1))) .nil))) (.cons (.tup (.cons (.blt .abs (.cons (.idx (.var 9) (.cst (.int 0))) .nil)) (.cons (.idx (.var 9) (.cst (.int 1))) .nil))) .nil))) .nil)))) (.cons (.ret (.cst (.bl false))) .nil) .nil) ir_law_k00_k18)
def ir_law_k00_k20 : Srs := (.cons (.ite (.or (.not (.call 24 (.cons (.call 11 (.cons (.var 9) (.cons (.var 10) .nil))) (.cons (.ite (.cmp .Gt (.var 15) (.var 16)) (.cst (.int 1)) (.ite (.cmp .Lt (.var 15) (.var 16)) (.neg (.cst (.int 1))) (.cst (.int 0)))) .nil)))) (.or (.not (.call 24 (.cons (.call 12 (.cons (.var 9) (.cons (.var 10) .nil))) (.cons (.cmp .Lt (.var 15) (.var 16)) .nil)))) (.not (.call 24 (.cons (.call 13 (.cons (.var 9) (.cons (.var 10) .nil))) (.cons (.cmp .LtE (.var 15) (.var 16)) .nil)))))) (.cons (.ret (.cst (.bl false))) .nil) .nil) ir_law_k00_k19)
def ir_law_k00_k21 : Srs := (.cons (.par 15 16 (.bin .Mult (.var 3) (.var 6)) (.bin .Mult (.var 5) (.var 4))) ir_law_k00_k20)
def ir_law_k00_k22 : Srs := (.cons (.ite (.or (.and (.cmp .NotEq (.var 5) (.cst (.int 0))) (.not (.call 24 (.cons (.call 8 (.cons (.var 9) (.cons (.var 10) .nil))) (.cons (.call 25 (.cons (.bin .Mult (.var 3) (.var 6)) (.cons (.bin .Mult (.var 4) (.var 5)) .nil))) .nil))))) (.not (.call 26 (.cons (.cst (.fn 8)) (.cons (.var 9) (.cons (.tup (.cons (.cst (.int 0)) (.cons (.cst (.int 1)) .nil))) .nil)))))) (.cons (.ret (.cst (.bl false))) .nil) .nil) ir_law_k00_k21)
def ir_law_k00_k23 : Srs := (.cons (.for_ (.tup (.cons (.nm 12) (.cons (.nm 13) (.cons (.nm 14) .nil)))) (.val (.var 11)) ir_law_k00_b1) ir_law_k00_k22)
def ir_law_k00_k24 : Srs := (.cons (.set 11 (.lst (.cons (.tup (.cons (.cst (.fn 5)) (.cons (.bin .Add (.bin .Mult (.var 3) (.var 6)) (.bin .Mult (.var 5) (.var 4))) (.cons (.bin .Mult (.var 4) (.var 6)) .nil)))) (.cons (.tup (.cons (.cst (.fn 6)) (.cons (.bin .Sub (.bin .Mult (.var 3) (.var 6)) (.bin .Mult (.var 5) (.var 4))) (.cons (.bin .Mult (.var 4) (.var 6)) .nil)))) (.cons (.tup (.cons (.cst (.fn 7)) (.cons (.bin .Mult (.var 3) (.var 5)) (.cons (.bin .Mult (.var 4) (.var 6)) .nil)))) .nil))))) ir_law_k00_k23)
def ir_law_k00_k25 : Srs := (.cons (.par 9 10 (.call 25 (.cons (.var 3) (.cons (.var 4) .nil))) (.call 25 (.cons (.var 5) (.cons (.var 6) .nil)))) ir_law_k00_k24)
def ir_law_k00_k26 : Srs := (.cons (.ite (.or (.not (.call 24 (.cons (.tup (.cons (.var 7) (.cons (.var 8) .nil))) (.cons (.tup (.cons (.call 25 (.cons (.var 3) (.cons (.var 4) .nil))) (.cons (.call 25 (.cons (.bin .Sub (.cst (.int 0)) (.var 5)) (.cons (.var 6) .nil))) .nil))) .nil)))) (.or (.cmp .IsNot (.call 4 (.cons (.var 7) .nil)) (.cst (.bl true))) (.not (.call 24 (.cons (.call 3 (.cons (.var 3) .nil)) (.cons (.tup (.cons (.var 3) (.cons (.cst (.int 1)) .nil))) .nil)))))) (.cons (.ret (.cst (.bl false))) .nil) .nil) ir_law_k00_k25)
def ir_law_k00_k27 : Srs := (.cons (.par 7 8 (.call 2 (.cons (.var 3) (.cons (.var 4) .nil))) (.call 2 (.cons (.var 5) (.cons (.bin .Sub (.cst (.int 0)) (.var 6)) .nil)))) ir_law_k00_k26)
def ir_law_k00_b28 : Srs := (.cons (.asg (.tup (.cons (.nm 3) (.cons (.nm 4) (.cons (.nm 5) (.cons (.nm 6) .nil))))) (.tup (.cons (.bin .Sub (.call 23 (.cons (.var 1) (.cons (.cst (.int 200)) .nil))) (.cst (.int 100))) (.cons (.bin .Add (.cst (.int 1)) (.call 23 (.cons (.var 1) (.cons (.cst (.int 60)) .nil)))) (.cons (.bin .Sub (.call 23 (.cons (.var 1) (.cons (.cst (.int 200)) .nil))) (.cst (.int 100))) (.cons (.bin .Add (.cst (.int 1)) (.call 23 (.cons (.var 1) (.cons (.cst (.int 60)) .nil)))) .nil)))))) ir_law_k00_k27)
def ir_law_k00_b29 : Srs := (.cons (.ite (.cmp .IsNot (.call 4 (.cons (.var 25) .nil)) (.cst (.bl false))) (.cons (.ret (.cst (.bl false))) .nil) .nil) .nil)
def ir_law_k00_k30 : Srs := (.cons (.ret (.and (.call 26 (.cons (.cst (.fn 2)) (.cons (.cst (.int 1)) (.cons (.cst (.int 0)) .nil)))) (.and (.call 26 (.cons (.cst (.fn 2)) (.cons (.cst .non) (.cons (.cst (.int 1)) .nil)))) (.and (.call 26 (.cons (.cst (.fn 2)) (.cons (.cst (.int 1)) (.cons (.cst (.bl true)) .nil)))) (.call 26 (.cons (.cst (.fn 2)) (.cons (.cst (.str "1")) (.cons (.cst (.int 1)) .nil)))))))) .nil)
def ir_law_k00_k31 : Srs := (.cons (.ite (.or (.cmp .IsNot (.call 4 (.cons (.tup (.cons (.cst (.int 0)) (.cons (.cst (.int 1)) .nil))) .nil)) (.cst (.bl true))) (.or (.cmp .IsNot (.call 0 (.cons (.cst (.bl true)) .nil)) (.cst (.bl false))) (.or (.cmp .IsNot (.call 0 (.cons (.cst (.int 3)) .nil)) (.cst (.bl true))) (.or (.cmp .IsNot (.call 0 (.cons (.cst (.str "3")) .nil)) (.cst (.bl false))) (.cmp .IsNot (.call 0 (.cons (.cst .non) .nil)) (.cst (.bl false))))))) (.cons (.ret (.cst (.bl false))) .nil) .nil) ir_law_k00_k30)
def ir_law_k00_k32 : Srs := (.cons (.for_ (.nm 25) (.val (.lst (.cons (.cst .non) (.cons (.tup (.cons (.cst (.int 1)) .nil)) (.cons (.lst (.cons (.cst (.int 1)) (.cons (.cst (.int 2)) .nil))) (.cons (.tup (.cons (.cst (.int 2)) (.cons (.cst (.int 4)) .nil))) (.cons (.tup (.cons (.cst (.int 1)) (.cons (.cst (.int 0)) .nil))) (.cons (.tup (.cons (.cst (.int 1)) (.cons (.neg (.cst (.int 2))) .nil))) (.cons (.tup (.cons (.cst (.bl true)) (.cons (.cst (.int 2)) .nil))) (.cons (.tup (.cons (.cst (.int 1)) (.cons (.cst (.bl true)) .nil))) (.cons (.tup (.cons (.cst (.str "1")) (.cons (.cst (.int 2)) .nil))) (.cons (.tup (.cons (.cst (.int 0)) (.cons (.cst (.int 2)) .nil))) .nil)))))))))))) ir_law_k00_b29) ir_law_k00_k31)
def ir_law_k00_k33 : Srs := (.cons (.for_ (.nm 2) (.rng1 (.cst (.int 8))) ir_law_k00_b28) ir_law_k00_k32)
def ir_law_k00 : Srs := (.cons (.set 1 (.call 22 (.cons (.var 0) .nil))) ir_law_k00_k33)
end U
section
set_option maxHeartbeats 2000000
namespace U
open PySem PySem.Spec PyProof.Rows L2 DL
theorem ends_rt {Q : QD} {d : D} {M : Mem} (h : Q d M) : (endS Q).rt d M := ⟨M, M.le_refl, h⟩
theorem ends_nx {Q : QD} {δ : Ev} {M : Mem} (h : Q .non M) : (endS Q).nx δ M := ⟨M, M.le_refl, h⟩
theorem ends_w {E : XD} {j : Nat} {fs : List (Str × D)} {δ : Ev} {M : Mem} (h : E j fs M) : endW E j fs δ M := ⟨M, M.le_refl, h⟩
/-- whether a value is a whole number -/
def whD : D → Option Bool
  | .int _ => some true
  | .non => some false
  | .bl _ => some false
  | .str _ => some false
  | .tup _ => some false
  | .lst _ => some false
  | _ => none
section
variable {u : Int} {k : Bool} {s : Str} {xs : List D} {q : Rat}
@[simp] theorem wh_int : whD (.int u) = some true := rfl
@[simp] theorem wh_non : whD .non = some false := rfl
@[simp] theorem wh_bl : whD (.bl k) = some false := rfl
@[simp] theorem wh_str : whD (.str s) = some false := rfl
@[simp] theorem wh_tup : whD (.tup xs) = some false := rfl
@[simp] theorem wh_lst : whD (.lst xs) = some false := rfl
@[simp] theorem wh_rt : whD (rt q) = some false := rfl
end
def φF : DSp := fun _ _ _ _ => False
def φ_is_whole : DSp := fun l M Q _ => match l with
  | [d] => opt (whD d) fun b => Q (.bl b) M
  | _ => False
def φ_shared : DSp := fun l M Q _ => match l with
  | [.int a, .int b] => Q (.int (Int.gcd a b : Nat)) M
  | _ => False
section
variable {Γ : List DSp} {xm : Nat → Nat → Option Bool} {ds : List D} {M : Mem} {Q : QD} {E : XD}
theorem b_is_whole (h : φ_is_whole ds M Q E) : dSs Γ xm ir_is_whole (endW E) (endS Q) (startD 1 ds) M := by
  unfold φ_is_whole at h
  split at h
  · rename_i d
    cases d <;> simp only [whD, opt_s, opt_n] at h <;> (unfold ir_is_whole; simp [startD, kit_t1, kit_t2, kit_t3]; exact ends_rt h)
  · exact h.elim
@[simp] theorem is_whole_s {d : D} : φ_is_whole [d] M Q E = opt (whD d) fun b => Q (.bl b) M := rfl
@[simp] theorem shared_s {a b : Int} : φ_shared [.int a, .int b] M Q E = Q (.int (Int.gcd a b : Nat)) M := rfl
theorem gcd_step {a b : Int} (ha : 0 ≤ a) (hb : 0 < b) : Int.gcd b (a.fmod b) = Int.gcd a b := by
  rw [Int.fmod_eq_emod_of_nonneg _ (Int.le_of_lt hb), Int.gcd_comm a b]
  obtain ⟨m, rfl⟩ := Int.eq_ofNat_of_zero_le ha
  obtain ⟨n, rfl⟩ := Int.eq_ofNat_of_zero_le (Int.le_of_lt hb)
  show Nat.gcd n (m % n) = Nat.gcd n m
  rw [Nat.gcd_comm n (m % n), ← Nat.gcd_rec]
/-- the loop by which a common divisor is found -/
theorem euclid {u v : Int} (hu : 0 ≤ u) (hv : 0 ≤ v) {Dn : En} {st : Int → Int → Ev} {c : WpT} {b : WpS}
    (hc : ∀ x y QT, QT (decide (y ≠ 0)) M → c (st x y) M QT) (hb : ∀ x y E, y ≠ 0 → E.nx (st y (x.fmod y)) M → b E (st x y) M) (h : Dn.nx (st (Int.gcd u v : Nat) 0) M) : whlGo c b Dn (st u v) M := by
  refine ⟨fun n δ M' => ∃ x y : Int, n = y.toNat ∧ 0 ≤ x ∧ 0 ≤ y ∧ Int.gcd x y = Int.gcd u v ∧ δ = st x y ∧ M' = M, ⟨_, u, v, rfl, hu, hv, rfl, rfl, rfl⟩, ?_⟩
  rintro n δ M' ⟨x, y, rfl, hx, hy, e, rfl, rfl⟩
  apply hc
  by_cases h0 : y = 0
  · subst h0
    have : x = (Int.gcd u v : Nat) := by rw [← e, Int.gcd_zero_right]; omega
    rw [← this] at h
    simpa using h
  · rw [if_pos (by simpa using h0)]
    refine hb _ _ _ h0 ⟨_, ?_, _, _, rfl, hy, Int.fmod_nonneg_of_pos _ (by omega), ?_, rfl, rfl⟩
    · have := Int.fmod_lt_of_pos x (show 0 < y by omega)
      have := Int.fmod_nonneg_of_pos x (show 0 < y by omega)
      omega
    · rw [gcd_step hx (by omega), e]
theorem gcd_abs (a b : Int) : Int.gcd (if a < 0 then -a else a) (if b < 0 then -b else b) = Int.gcd a b := by
  split <;> split <;> simp
theorem b_shared (h : φ_shared ds M Q E) : dSs Γ xm ir_shared (endW E) (endS Q) (startD 2 ds) M := by
  unfold φ_shared at h
  split at h
  · rename_i a b
    unfold ir_shared
    simp [startD, s_whl]
    refine euclid (st := fun x y => [some (.int x), some (.int y)]) (by split <;> omega) (by split <;> omega) ?_ ?_ ?_
    · intro x y QT hq
      unfold ir_shared_c1
      simpa using hq
    · intro x y E' hy hn
      unfold ir_shared_b2
      simp [hy]
      exact hn
    · simp [gcd_abs]
      exact ends_rt h
  · exact h.elim
/-- an error -/
def badFr (x y : D) : Prop := whD x = some false ∨ (whD x = some true ∧ (whD y = some false ∨ y = .int 0))
def φ_fraction : DSp := fun l M Q E => match l with
  | [x, y] => (∃ a b, x = .int a ∧ y = .int b ∧ b ≠ 0 ∧ b.natAbs < 2 ^ 9000 ∧ Q (rt (Rat.divInt a b)) M) ∨ (badFr x y ∧ E 0 [] M)
  | _ => False
theorem whD_int {x : D} (h : whD x = some true) : ∃ a, x = .int a := by
  cases x <;> first | exact ⟨_, rfl⟩ | (simp [whD] at h)
theorem b_fraction (g0 : Γ[0]? = some φ_is_whole) (g1 : Γ[1]? = some φ_shared) (h : φ_fraction ds M Q E) : dSs Γ xm ir_fraction (endW E) (endS Q) (startD 3 ds) M := by
  unfold φ_fraction at h
  split at h
  · rename_i x y
    unfold ir_fraction
    rcases h with ⟨a, b, rfl, rfl, h0, hs, hq⟩ | ⟨hb, he⟩
    · have hp : 0 < Int.gcd a b := Int.gcd_pos_of_ne_zero_right a h0
      have hl : Int.gcd a b ≤ b.natAbs := Nat.gcd_le_right _ (by omega)
      by_cases hn : b < 0
      · simp [startD, g0, g1, h0, hn]
        refine ⟨cdv (by omega) (by omega), cdv (by omega) (by omega), ?_⟩
        have := quo_divInt (a := a) h0 rfl
        rw [if_pos hn] at this
        exact ends_rt (by rw [this]; exact hq)
      · simp [startD, g0, g1, h0, hn]
        refine ⟨cdv (by omega) (by omega), cdv (by omega) (by omega), ?_⟩
        have := quo_divInt (a := a) h0 rfl
        rw [if_neg hn] at this
        exact ends_rt (by rw [this]; exact hq)
    · rcases hb with hb | ⟨hb, hc | hc⟩
      · simp [startD, g0, g1, hb]
        exact ends_w he
      · simp [startD, g0, g1, hb, hc]
        exact ends_w he
      · subst hc
        simp [startD, g0, g1, hb]
        exact ends_w he
  · exact h.elim
theorem fraction_s {a b : Int} (h0 : b ≠ 0) (hs : b.natAbs < 2 ^ 9000) : φ_fraction [.int a, .int b] M Q E = Q (rt (Rat.divInt a b)) M := by
  refine propext ⟨?_, fun h => .inl ⟨a, b, rfl, rfl, h0, hs, h⟩⟩
  rintro (⟨a', b', e1, e2, _, _, h⟩ | ⟨h, _⟩)
  · cases e1; cases e2; exact h
  · simp [badFr, h0] at h
def φ_fraction1 : DSp := fun l M Q E => match l with
  | [x] => φ_fraction [x, .int 1] M Q E
  | _ => False
@[simp] theorem fraction1_s {x : D} : φ_fraction1 [x] M Q E = φ_fraction [x, .int 1] M Q E := rfl
/-- a fraction in lowest terms, or none -/
def isFr : D → Option Bool
  | .tup [x, y] => (whD x).bind fun a => (whD y).bind fun b => some (match x, y with
    | .int u, .int v => a && b && decide (0 < v) && decide ((Int.gcd u v : Int) = 1)
    | _, _ => false)
  | .tup _ => some false
  | .non => some false
  | .bl _ => some false
  | .int _ => some false
  | .str _ => some false
  | .lst _ => some false
  | _ => none
@[simp] theorem isFr_rt {q : Rat} : isFr (rt q) = some true := by
  have h1 : 0 < q.den := q.den_pos
  have h2 : ((Int.gcd q.num q.den : Nat) : Int) = 1 := congrArg Int.ofNat q.reduced
  unfold rt isFr
  simp [whD, h1, h2]
def φ_is_fraction : DSp := fun l M Q _ => match l with
  | [d] => opt (isFr d) fun b => Q (.bl b) M
  | _ => False
@[simp] theorem is_fraction_s {d : D} : φ_is_fraction [d] M Q E = opt (isFr d) fun b => Q (.bl b) M := rfl
theorem b_is_fraction (g0 : Γ[0]? = some φ_is_whole) (g1 : Γ[1]? = some φ_shared) (h : φ_is_fraction ds M Q E) : dSs Γ xm ir_is_fraction (endW E) (endS Q) (startD 1 ds) M := by
  unfold φ_is_fraction at h
  split at h
  · rename_i d
    unfold ir_is_fraction
    cases d with
    | tup xs =>
      rcases xs with _ | ⟨x, _ | ⟨y, _ | ⟨z, xs⟩⟩⟩
      · simp [isFr] at h
        simp [startD, kit_t1, kit_t2, kit_t3, kit_t4, kit_t5, kit_t6, kit_u1, kit_u2, kit_u3, kit_u4, kit_u5, kit_u6]
        exact ends_rt h
      · simp [isFr] at h
        simp [startD, kit_t1, kit_t2, kit_t3, kit_t4, kit_t5, kit_t6, kit_u1, kit_u2, kit_u3, kit_u4, kit_u5, kit_u6]
        exact ends_rt h
      · simp [isFr] at h
        cases hx : whD x with
        | none => rw [hx] at h; exact h.elim
        | some a =>
          cases hy : whD y with
          | none => rw [hx, hy] at h; exact h.elim
          | some b =>
            rw [hx, hy] at h
            simp at h
            cases a
            · simp [startD, g0, g1, hx, hy, kit_u1, kit_u2, kit_u3, kit_u4, kit_u5, kit_u6]
              refine ends_rt ?_
              cases x <;> first | (simp [whD] at hx; done) | exact h
            · obtain ⟨u, rfl⟩ := whD_int hx
              cases b
              · simp [startD, g0, g1, hx, hy, kit_u1, kit_u2, kit_u3, kit_u4, kit_u5, kit_u6]
                refine ends_rt ?_
                cases y <;> first | (simp [whD] at hy; done) | exact h
              · obtain ⟨v, rfl⟩ := whD_int hy
                simp at h
                by_cases hv : 0 < v
                · simp [startD, g0, g1, hv, kit_u1, kit_u2, kit_u3, kit_u4, kit_u5, kit_u6]
                  refine ends_rt ?_
                  simpa [hv] using h
                · simp [startD, g0, g1, hv, kit_u1, kit_u2, kit_u3, kit_u4, kit_u5, kit_u6]
                  refine ends_rt ?_
                  simpa [hv] using h
      · simp [isFr] at h
        have : ¬ ((xs.length : Int) + 1 + 1 + 1 = 2) := by omega
        simp [startD, this, kit_t1, kit_t2, kit_t3, kit_t4, kit_t5, kit_t6, kit_u1, kit_u2, kit_u3, kit_u4, kit_u5, kit_u6]
        exact ends_rt h
    | _ =>
      simp [isFr] at h
      try (
        simp [startD, kit_t1, kit_t2, kit_t3, kit_t4, kit_t5, kit_t6, kit_u1, kit_u2, kit_u3, kit_u4, kit_u5, kit_u6]
        exact ends_rt h)
  · exact h.elim
/-! ### arithmetic -/
/-- a contract about two fractions -/
def bin2 (f : Rat → Rat → D) : DSp := fun l M Q _ => match l with
  | [d, e] => onR (fun x => onR (fun y => Sz 4000 x ∧ Sz 4000 y ∧ Q (f x y) M) e) d
  | _ => False
def un1 (f : Rat → D) : DSp := fun l M Q _ => match l with
  | [d] => onR (fun x => Sz 8000 x ∧ Q (f x) M) d
  | _ => False
section
variable {f : Rat → Rat → D} {f1 : Rat → D} {x y : Rat}
@[simp] theorem bin2_s : bin2 f [rt x, rt y] M Q E = (Sz 4000 x ∧ Sz 4000 y ∧ Q (f x y) M) := by simp [bin2]
@[simp] theorem un1_s : un1 f1 [rt x] M Q E = (Sz 8000 x ∧ Q (f1 x) M) := by simp [un1]
theorem bin2_i (h : bin2 f ds M Q E) : ∃ x y, ds = [rt x, rt y] ∧ Sz 4000 x ∧ Sz 4000 y ∧ Q (f x y) M := by
  unfold bin2 at h
  split at h
  · obtain ⟨x, rfl, y, rfl, h⟩ := h
    exact ⟨x, y, rfl, h⟩
  · exact h.elim
theorem un1_i (h : un1 f1 ds M Q E) : ∃ x, ds = [rt x] ∧ Sz 8000 x ∧ Q (f1 x) M := by
  unfold un1 at h
  split at h
  · obtain ⟨x, rfl, h⟩ := h
    exact ⟨x, rfl, h⟩
  · exact h.elim
theorem Sz.mok (h1 : Sz 4000 x) (h2 : Sz 4000 y) : IntMulOk x.num y.den ∧ IntMulOk y.num x.den ∧ IntMulOk x.den y.den ∧ IntMulOk x.num y.num ∧ IntMulOk x.den y.num ∧ IntMulOk y.den x.num :=
  ⟨mulOk (m := 4000) (n := 4000) h1.1 (by simpa using h2.2) (by decide), mulOk (m := 4000) (n := 4000) h2.1 (by simpa using h1.2) (by decide), mulOk (m := 4000) (n := 4000) (by simpa using h1.2) (by simpa using h2.2) (by decide), mulOk (m := 4000) (n := 4000) h1.1 h2.1 (by decide), mulOk (m := 4000) (n := 4000) (by simpa using h1.2) h2.1 (by decide), mulOk (m := 4000) (n := 4000) (by simpa using h2.2) h1.1 (by decide)⟩
theorem Sz.mul_lt {a b : Nat} (h1 : a < 2 ^ 4000) (h2 : b < 2 ^ 4000) : a * b < 2 ^ 9000 := pow_mono (U.mul_lt h1 h2) (by decide)
theorem Sz.den_mul (h1 : Sz 4000 x) (h2 : Sz 4000 y) : ((x.den : Int) * y.den).natAbs < 2 ^ 9000 := by
  rw [Int.natAbs_mul]; exact Sz.mul_lt h1.2 h2.2
theorem den_ne (x : Rat) : (x.den : Int) ≠ 0 := by have := x.den_pos; omega
theorem den_mul_ne (x y : Rat) : (x.den : Int) * y.den ≠ 0 := Int.mul_ne_zero (den_ne x) (den_ne y)
theorem add_div (x y : Rat) : Rat.divInt (x.num * y.den + y.num * x.den) (x.den * y.den) = x + y := by
  rw [← Rat.divInt_add_divInt _ _ (den_ne x) (den_ne y), Rat.num_divInt_den, Rat.num_divInt_den]
theorem mul_div (x y : Rat) : Rat.divInt (x.num * y.num) (x.den * y.den) = x * y := by
  rw [← Rat.divInt_mul_divInt, Rat.num_divInt_den, Rat.num_divInt_den]
theorem sub_div (x y : Rat) : Rat.divInt (x.num * y.den - y.num * x.den) (x.den * y.den) = x - y := by
  rw [Rat.sub_eq_add_neg, ← add_div]
  simp [Int.sub_eq_add_neg, Int.neg_mul]
theorem quot_div (x y : Rat) : Rat.divInt (x.num * y.den) (x.den * y.num) = x / y := by
  rw [Rat.div_def, ← Rat.divInt_mul_divInt]
  rw [Rat.num_divInt_den, ← Rat.inv_divInt, Rat.num_divInt_den]
end
def φ_plus : DSp := bin2 fun x y => rt (x + y)
def φ_minus : DSp := bin2 fun x y => rt (x - y)
def φ_times : DSp := bin2 fun x y => rt (x * y)
theorem b_plus (g2 : Γ[2]? = some φ_fraction) (h : φ_plus ds M Q E) : dSs Γ xm ir_plus (endW E) (endS Q) (startD 2 ds) M := by
  obtain ⟨x, y, rfl, hx, hy, h⟩ := bin2_i h
  obtain ⟨m1, m2, m3, -⟩ := Sz.mok hx hy
  unfold ir_plus
  simp [startD, g2, m1, m2, m3]
  rw [fraction_s (den_mul_ne x y) (hx.den_mul hy), add_div]
  exact ends_rt h
theorem b_minus (g2 : Γ[2]? = some φ_fraction) (h : φ_minus ds M Q E) : dSs Γ xm ir_minus (endW E) (endS Q) (startD 2 ds) M := by
  obtain ⟨x, y, rfl, hx, hy, h⟩ := bin2_i h
  obtain ⟨m1, m2, m3, -⟩ := Sz.mok hx hy
  unfold ir_minus
  simp [startD, g2, m1, m2, m3]
  rw [fraction_s (den_mul_ne x y) (hx.den_mul hy), sub_div]
  exact ends_rt h
theorem b_times (g2 : Γ[2]? = some φ_fraction) (h : φ_times ds M Q E) : dSs Γ xm ir_times (endW E) (endS Q) (startD 2 ds) M := by
  obtain ⟨x, y, rfl, hx, hy, h⟩ := bin2_i h
  obtain ⟨m1, m2, m3, m4, -⟩ := Sz.mok hx hy
  unfold ir_times
  simp [startD, g2, m1, m2, m3, m4]
  rw [fraction_s (den_mul_ne x y) (hx.den_mul hy), mul_div]
  exact ends_rt h
def φ_over : DSp := fun l M Q E => match l with
  | [d, e] => onR (fun x => onR (fun y => Sz 4000 x ∧ Sz 4000 y ∧ ((y ≠ 0 ∧ Q (rt (x / y)) M) ∨ (y = 0 ∧ E 0 [] M))) e) d
  | _ => False
theorem over_s {x y : Rat} (h : y ≠ 0) : φ_over [rt x, rt y] M Q E = (Sz 4000 x ∧ Sz 4000 y ∧ Q (rt (x / y)) M) := by simp [φ_over, h]
theorem b_over (g2 : Γ[2]? = some φ_fraction) (h : φ_over ds M Q E) : dSs Γ xm ir_over (endW E) (endS Q) (startD 2 ds) M := by
  unfold φ_over at h
  split at h
  · obtain ⟨x, rfl, y, rfl, hx, hy, h⟩ := h
    obtain ⟨m1, m2, m3, m4, m5, m6⟩ := Sz.mok hx hy
    unfold ir_over
    simp [startD, g2, m1, m2, m3, m4, m5, m6]
    rcases h with ⟨h0, h⟩ | ⟨rfl, h⟩
    · rw [fraction_s (Int.mul_ne_zero (den_ne x) (by simpa using h0)) (by rw [Int.natAbs_mul]; exact Sz.mul_lt hx.2 hy.1), quot_div]
      exact ends_rt h
    · exact .inr ⟨.inr ⟨rfl, .inr (by simp)⟩, ends_w h⟩
  · exact h.elim
end
end U
end
section
set_option maxHeartbeats 2000000
namespace U
open PySem PySem.Spec PyProof.Rows L2 DL
section
variable {Γ : List DSp} {xm : Nat → Nat → Option Bool} {ds : List D} {M : Mem} {Q : QD} {E : XD}
def ab (x : Rat) : Rat := if x < 0 then -x else x
theorem rt_neg (x : Rat) : D.tup [.int (-x.num), .int x.den] = rt (-x) := rfl
theorem num_neg_iff (x : Rat) : x.num < 0 ↔ x < 0 := by
  rw [Rat.lt_iff]; simp
theorem rt_ab (x : Rat) : D.tup [.int (if x.num < 0 then -x.num else x.num), .int x.den] = rt (ab x) := by
  unfold ab
  by_cases h : x < 0
  · rw [if_pos h, if_pos ((num_neg_iff x).mpr h)]; rfl
  · rw [if_neg h, if_neg (fun q => h ((num_neg_iff x).mp q))]; rfl
def φ_against : DSp := un1 fun x => rt (-x)
def φ_sized : DSp := un1 fun x => rt (ab x)
theorem b_against (h : φ_against ds M Q E) : dSs Γ xm ir_against (endW E) (endS Q) (startD 1 ds) M := by
  obtain ⟨x, rfl, hx, h⟩ := un1_i h
  unfold ir_against
  simp [startD, rt_neg]
  exact ends_rt h
theorem b_sized (h : φ_sized ds M Q E) : dSs Γ xm ir_sized (endW E) (endS Q) (startD 1 ds) M := by
  obtain ⟨x, rfl, hx, h⟩ := un1_i h
  unfold ir_sized
  simp [startD, rt_ab]
  exact ends_rt h
def cmpR (x y : Rat) : Int := (if y < x then 1 else 0) - (if x < y then 1 else 0)
def φ_order : DSp := bin2 fun x y => .int (cmpR x y)
def φ_below : DSp := bin2 fun x y => .bl (decide (x < y))
def φ_at_most : DSp := bin2 fun x y => .bl (decide (x ≤ y))
theorem b_order (h : φ_order ds M Q E) : dSs Γ xm ir_order (endW E) (endS Q) (startD 4 ds) M := by
  obtain ⟨x, y, rfl, hx, hy, h⟩ := bin2_i h
  obtain ⟨m1, m2, -⟩ := Sz.mok hx hy
  unfold ir_order
  simp [startD, m1, m2]
  refine ends_rt ?_
  unfold cmpR at h
  simpa [Rat.lt_iff] using h
theorem cmp_lt0 (x y : Rat) : cmpR x y < 0 ↔ x < y := by
  unfold cmpR
  by_cases h : x < y
  · have : ¬ y < x := by grind
    simp [h, this]
  · simp only [if_neg h, h, iff_false]
    split <;> simp
theorem cmp_le0 (x y : Rat) : cmpR x y ≤ 0 ↔ x ≤ y := by
  unfold cmpR
  by_cases h : y < x
  · have h2 : ¬ x < y := by grind
    have h3 : ¬ x ≤ y := Rat.not_le.mpr h
    simp [h, h2, h3]
  · have h3 : x ≤ y := Rat.not_lt.mp h
    simp only [if_neg h, h3]
    split <;> simp
theorem b_below (g : Γ[11]? = some φ_order) (h : φ_below ds M Q E) : dSs Γ xm ir_below (endW E) (endS Q) (startD 2 ds) M := by
  obtain ⟨x, y, rfl, hx, hy, h⟩ := bin2_i h
  unfold ir_below
  simp [startD, g, φ_order, hx, hy, cmp_lt0]
  exact ends_rt h
theorem b_at_most (g : Γ[11]? = some φ_order) (h : φ_at_most ds M Q E) : dSs Γ xm ir_at_most (endW E) (endS Q) (startD 2 ds) M := by
  obtain ⟨x, y, rfl, hx, hy, h⟩ := bin2_i h
  unfold ir_at_most
  simp [startD, g, φ_order, hx, hy, cmp_le0]
  exact ends_rt h
/-! ### loops without change of memory -/
theorem lc_pure {step : D → Mem → (Option D → Mem → Prop) → Prop} {ch : Mem → Prop} {p : Addr} {QL : List D → Mem → Prop} {g : D → Option D} (hp : M p = none) (hc : ∀ acc', ch (M.put p (.lst acc'))) :
    ∀ ds acc, (∀ d ∈ ds, ∀ acc' k, k (g d) (M.put p (.lst acc')) → step d (M.put p (.lst acc')) k) → acc.length + ds.length ≤ sizeLine → QL (acc ++ ds.filterMap g) M → lcGo step ch p QL ds acc (M.put p (.lst acc))
  | [], acc, _, _, h => ⟨hc _, Mem.put_same, by rw [Mem.del_put hp]; simpa using h⟩
  | d :: ds, acc, hs, hl, h => by
    refine ⟨hc _, hs d (by simp) _ _ ?_⟩
    cases e : g d with
    | none =>
      refine lc_pure hp hc ds acc (fun d hd => hs d (by simp [hd])) (by simp at hl; omega) ?_
      simpa [List.filterMap_cons, e] using h
    | some y =>
      refine ⟨Mem.put_same, by simp at hl; omega, ?_⟩
      simp only [Mem.put_put]
      refine lc_pure hp hc ds (acc ++ [y]) (fun d hd => hs d (by simp [hd])) (by simp at hl ⊢; omega) ?_
      simpa [List.filterMap_cons, e] using h
theorem lc_map {step : D → Mem → (Option D → Mem → Prop) → Prop} {ch : Mem → Prop} {p : Addr} {QL : List D → Mem → Prop} {g : D → D} (hp : M p = none) (hc : ∀ acc', ch (M.put p (.lst acc'))) (ds : List D)
    (hs : ∀ d ∈ ds, ∀ acc' k, k (some (g d)) (M.put p (.lst acc')) → step d (M.put p (.lst acc')) k) (hl : ds.length ≤ sizeLine) (h : QL (ds.map g) M) : lcGo step ch p QL ds [] (M.put p (.lst [])) :=
  lc_pure (g := fun d => some (g d)) hp hc ds [] hs (by simpa using hl) (by simpa [← List.filterMap_eq_map] using h)
def least (f x : Rat) : Rat := if x < f then x else f
def most (f x : Rat) : Rat := if f < x then x else f
def fracs (f : Rat → Rat → Rat) : DSp := fun l M Q _ => match l with
  | [d] => ∃ q qs, (d = .lst ((q :: qs).map rt) ∨ d = .tup ((q :: qs).map rt)) ∧ (∀ x ∈ q :: qs, Sz 4000 x) ∧ qs.length < 4000000 ∧ Q (rt (qs.foldl f q)) M
  | _ => False
def φ_least_of : DSp := fracs least
def φ_most_of : DSp := fracs most
theorem fracs_2 {f : Rat → Rat → Rat} {x y : Rat} (hx : Sz 4000 x) (hy : Sz 4000 y) (h : Q (rt (f x y)) M) : fracs f [.lst [rt x, rt y]] M Q E := ⟨x, [y], .inl rfl, by simp [hx, hy], (by simp), h⟩
theorem fracs_2t {f : Rat → Rat → Rat} {x y : Rat} (hx : Sz 4000 x) (hy : Sz 4000 y) (h : Q (rt (f x y)) M) : fracs f [.tup [rt x, rt y]] M Q E := ⟨x, [y], .inr rfl, by simp [hx, hy], (by simp), h⟩
theorem for_inv {st : D → WpS} {ch : Mem → Prop} {Dn : En} (I : List D → Ev → Mem → Prop) (hs : ∀ d ds δ M, I (d :: ds) δ M → ch M ∧ ∀ nx : Ev → Mem → Prop, (∀ δ' M', I ds δ' M' → nx δ' M') → st d { nx := nx, ct := nx, bk := Dn.nx, rt := Dn.rt } δ M)
    (hn : ∀ δ M, I [] δ M → ch M ∧ Dn.nx δ M) : ∀ ds δ M, I ds δ M → forGo st ch Dn ds δ M
  | [], δ, M, h => hn δ M h
  | d :: ds, δ, M, h => ⟨(hs d ds δ M h).1, (hs d ds δ M h).2 _ fun δ' M' h' => for_inv I hs hn ds δ' M' h'⟩
theorem least_for (g : Γ[12]? = some φ_below) {W : WD} {rows : D} {Dn : En} (qs : List Rat) (v : Rat) (o : Option D) (hv : Sz 4000 v) (hq : ∀ x ∈ qs, Sz 4000 x) (h : ∀ o, Dn.nx [some rows, some (rt (qs.foldl least v)), o] M) :
    forGo (fun d E δ M => dSs Γ xm ir_least_of_b1 W E (δ.set 2 (some d)) M) (fun _ => True) Dn (qs.map rt) [some rows, some (rt v), o] M := by
  refine for_inv (fun ds δ M' => ∃ qs' v' o', ds = qs'.map rt ∧ δ = [some rows, some (rt v'), o'] ∧ M' = M ∧ Sz 4000 v' ∧ (∀ x ∈ qs', Sz 4000 x) ∧ qs'.foldl least v' = qs.foldl least v) ?_ ?_ _ _ _ ⟨qs, v, o, rfl, rfl, rfl, hv, hq, rfl⟩
  · rintro d ds δ M' ⟨qs', v', o', e, rfl, rfl, hv, hq, ef⟩
    rcases qs' with _ | ⟨q, qs'⟩
    · simp at e
    simp at e
    obtain ⟨rfl, rfl⟩ := e
    refine ⟨trivial, fun nx hn => ?_⟩
    have h1 := hq q (by simp)
    unfold ir_least_of_b1
    simp [g, φ_below, h1, hv]
    split <;> rename_i hh
    · exact hn _ _ ⟨qs', q, _, rfl, rfl, rfl, h1, fun x hx => hq x (by simp [hx]), by rw [← ef]; simp [least, hh]⟩
    · exact hn _ _ ⟨qs', v', _, rfl, rfl, rfl, hv, fun x hx => hq x (by simp [hx]), by rw [← ef]; simp [least, hh]⟩
  · rintro δ M' ⟨qs', v', o', e, rfl, rfl, hv, hq, ef⟩
    rcases qs' with _ | ⟨q, qs'⟩
    · refine ⟨trivial, ?_⟩
      simp at ef
      rw [ef]
      exact h _
    · simp at e
theorem b_least_of (g : Γ[12]? = some φ_below) (h : φ_least_of ds M Q E) : dSs Γ xm ir_least_of (endW E) (endS Q) (startD 3 ds) M := by
  unfold φ_least_of fracs at h
  split at h
  · obtain ⟨q, qs, hd, hs, hl, h⟩ := h
    unfold ir_least_of
    have h1 := hs q (by simp)
    rcases hd with rfl | rfl
    · simp [startD]
      intro _
      refine least_for g qs q _ h1 (fun x hx => hs x (by simp [hx])) fun o => ?_
      simp
      exact ends_rt h
    · simp [startD]
      intro _
      refine least_for g qs q _ h1 (fun x hx => hs x (by simp [hx])) fun o => ?_
      simp
      exact ends_rt h
  · exact h.elim
theorem neg_least (qs : List Rat) (q : Rat) : -((qs.map fun x => -x).foldl least (-q)) = qs.foldl most q := by
  induction qs generalizing q with
  | nil => simp
  | cons x qs ih =>
    simp only [List.map_cons, List.foldl_cons]
    rw [← ih]
    have : least (-q) (-x) = -(most q x) := by
      unfold least most
      have : (-x < -q) ↔ (q < x) := by constructor <;> intro h <;> grind
      simp only [this]
      split <;> rfl
    rw [this]
theorem Sz.neg {n : Nat} {x : Rat} (h : Sz n x) : Sz n (-x) := ⟨by simpa using h.1, h.2⟩
theorem fold_sz {f : Rat → Rat → Rat} (hf : ∀ a b, f a b = a ∨ f a b = b) {n : Nat} : ∀ (qs : List Rat) (q : Rat), Sz n q → (∀ x ∈ qs, Sz n x) → Sz n (qs.foldl f q)
  | [], q, h, _ => h
  | x :: qs, q, h, hq => by
    refine fold_sz hf qs _ ?_ (fun y hy => hq y (by simp [hy]))
    rcases hf q x with e | e <;> rw [e]
    · exact h
    · exact hq x (by simp)
theorem least_or (a b : Rat) : least a b = a ∨ least a b = b := by unfold least; split <;> simp
theorem most_or (a b : Rat) : most a b = a ∨ most a b = b := by unfold most; split <;> simp
theorem b_most_of (g : Γ[9]? = some φ_against) (g2 : Γ[14]? = some φ_least_of) (h : φ_most_of ds M Q E) : dSs Γ xm ir_most_of (endW E) (endS Q) (startD 2 ds) M := by
  unfold φ_most_of fracs at h
  split at h
  · obtain ⟨q, qs, hd, hs, hl, h⟩ := h
    unfold ir_most_of
    have fin : ∀ (Q' : QD), Q' (rt (qs.foldl most q)) M → φ_least_of [.lst (((q :: qs).map rt).map fun d => match d with
        | .tup [.int a, b] => .tup [.int (-a), b]
        | d => d)] M (fun d M1 => φ_against [d] M1 Q' E) E := by
      intro Q' hQ
      refine ⟨-q, qs.map fun x => -x, .inl ?_, ?_, by simpa using hl, ?_⟩
      · simp [List.map_map]
        exact ⟨rfl, fun a _ => rfl⟩
      · intro x hx
        simp at hx
        rcases hx with rfl | ⟨y, hy, rfl⟩
        · exact (hs q (by simp)).neg
        · exact (hs y (by simp [hy])).neg
      · have hz : Sz 4000 ((qs.map fun x => -x).foldl least (-q)) := fold_sz least_or _ _ (hs q (by simp)).neg (fun x hx => by
          simp at hx; obtain ⟨y, hy, rfl⟩ := hx; exact (hs y (by simp [hy])).neg)
        simp [φ_against, hz.mono (show 4000 ≤ 8000 by decide), neg_least]
        exact hQ
    have step : ∀ (d : D) (Mx : Mem) (k : Option D → Mem → Prop), d ∈ (q :: qs).map rt → k (some (match d with
        | .tup [.int a, b] => .tup [.int (-a), b]
        | d => d)) Mx → ∀ r, dE Γ ir_most_of_e1 W0 [r, some d] Mx (fun y M3 => k (some y) M3) := by
      intro d Mx k hd hk r
      obtain ⟨x, hx, rfl⟩ := List.mem_map.mp hd
      unfold ir_most_of_e1
      simp [g, φ_against, (hs x hx).mono (show 4000 ≤ 8000 by decide)]
      exact hk
    rcases hd with rfl | rfl
    · simp only [startD]
      simp [g, g2]
      intro _ p hp
      refine lc_map (g := fun d => match d with
        | .tup [.int a, b] => .tup [.int (-a), b]
        | d => d) hp (fun _ => by simp) _ (fun d hd acc' k hk => ?_) (by simp [sizeLine]; omega) ?_
      · simp [wipeD]
        exact step d _ k (by simpa using hd) hk _
      · exact fin _ (ends_rt h)
    · simp only [startD]
      simp [g, g2]
      intro _ p hp
      refine lc_map (g := fun d => match d with
        | .tup [.int a, b] => .tup [.int (-a), b]
        | d => d) hp (fun _ => by simp) _ (fun d hd acc' k hk => ?_) (by simp [sizeLine]; omega) ?_
      · simp [wipeD]
        exact step d _ k (by simpa using hd) hk _
      · exact fin _ (ends_rt h)
  · exact h.elim
def φ_floor : DSp := un1 fun x => .int x.floor
def φ_ceiling : DSp := un1 fun x => .int x.ceil
theorem Sz.cdv {x : Rat} (h : Sz 8000 x) (i : Int) : CDv i x.den := U.cdv (den_ne x) (by simpa using pow_mono h.2 (by decide))
theorem floor_f (x : Rat) : x.num.fdiv x.den = x.floor := by rw [Rat.floor_def, Int.fdiv_eq_ediv_of_nonneg _ (by omega)]
theorem ceil_f (x : Rat) : -((-x.num).fdiv x.den) = x.ceil := by
  rw [Rat.ceil_eq_neg_floor_neg, ← floor_f]; rfl
theorem b_floor (h : φ_floor ds M Q E) : dSs Γ xm ir_floor (endW E) (endS Q) (startD 1 ds) M := by
  obtain ⟨x, rfl, hx, h⟩ := un1_i h
  unfold ir_floor
  simp [startD, hx.cdv, floor_f]
  exact ends_rt h
theorem b_ceiling (h : φ_ceiling ds M Q E) : dSs Γ xm ir_ceiling (endW E) (endS Q) (startD 1 ds) M := by
  obtain ⟨x, rfl, hx, h⟩ := un1_i h
  unfold ir_ceiling
  simp [startD, hx.cdv, ceil_f]
  exact ends_rt h
end
end U
end
section
set_option maxHeartbeats 2000000
set_option exponentiation.threshold 10000
namespace U
open PySem PySem.Spec PyProof.Rows L2 DL
section
variable {Γ : List DSp} {xm : Nat → Nat → Option Bool} {ds : List D} {M : Mem} {Q : QD} {E : XD}
/-- a power that is not too great -/
def RsOk (b e : Int) : Prop := 0 ≤ e ∧ ∃ k : Nat, b.natAbs ≤ 2 ^ k ∧ k * e.toNat ≤ 33554432
def φ_raised : DSp := fun l M Q _ => match l with
  | [.int b, .int e] => RsOk b e ∧ Q (.int (b ^ e.toNat)) M
  | _ => False
@[simp] theorem raised_s {b e : Int} : φ_raised [.int b, .int e] M Q E = (RsOk b e ∧ Q (.int (b ^ e.toNat)) M) := rfl
theorem pow_abs {b : Int} {k j : Nat} (h : b.natAbs ≤ 2 ^ k) : (b ^ j).natAbs < 2 ^ (k * j + 1) := by
  rw [Int.natAbs_pow]
  have h1 : b.natAbs ^ j ≤ (2 ^ k) ^ j := Nat.pow_le_pow_left h j
  rw [← Nat.pow_mul] at h1
  rw [Nat.pow_succ]
  have := Nat.pow_pos (n := k * j) (show 0 < 2 by decide)
  omega
theorem half_lt {t : Nat} (h : 0 < t) : t / 2 < t := Nat.div_lt_self h (by decide)
theorem fdiv2 (t : Nat) : (t : Int).fdiv 2 = (t / 2 : Nat) := by rw [Int.fdiv_eq_ediv_of_nonneg _ (by decide)]; rfl
theorem fmod2 (t : Nat) : (t : Int).fmod 2 = (t % 2 : Nat) := by rw [Int.fmod_eq_emod_of_nonneg _ (by decide)]; rfl
theorem whl_inv {c : WpT} {b : WpS} {Dn : En} {δ : Ev} (Z : Nat → Ev → Mem → Prop) (n : Nat) (h0 : Z n δ M)
    (hs : ∀ n δ M, Z n δ M → ∀ nx : Ev → Mem → Prop, (∀ n' δ' M', n' < n → Z n' δ' M' → nx δ' M') → c δ M fun t M1 => if t = true then b { nx := nx, ct := nx, bk := Dn.nx, rt := Dn.rt } δ M1 else Dn.nx δ M1) : whlGo c b Dn δ M :=
  ⟨Z, ⟨n, h0⟩, fun n δ M h => hs n δ M h _ fun n' δ' M' h1 h2 => ⟨n', h1, h2⟩⟩
theorem b_raised (h : φ_raised ds M Q E) : dSs Γ xm ir_raised (endW E) (endS Q) (startD 4 ds) M := by
  unfold φ_raised at h
  split at h
  · rename_i b e
    obtain ⟨⟨he, k, hk, hl⟩, h⟩ := h
    obtain ⟨e, rfl⟩ := Int.eq_ofNat_of_zero_le he
    simp only [Int.toNat_natCast] at hl h
    unfold ir_raised
    simp [startD, s_whl]
    refine whl_inv (fun n δ M' => ∃ i j t : Nat, n = t ∧ i + j * t = e ∧ δ = [some (.int b), some (.int t), some (.int (b ^ i)), some (.int (b ^ j))] ∧ M' = M) e ⟨0, 1, e, rfl, by omega, by simp [Int.pow_succ], rfl⟩ ?_
    rintro n δ M' ⟨i, j, t, rfl, hij, rfl, rfl⟩ nx hnx
    unfold ir_raised_c1
    simp
    by_cases ht : n = 0
    · subst ht
      simp at hij
      subst hij
      simp
      exact ends_rt h
    · have tp : 0 < n := by omega
      simp [tp]
      have hj : j ≤ e := by
        have := Nat.le_mul_of_pos_right j tp
        omega
      have ci : k * i + 1 ≤ 67108864 := by
        have : k * i ≤ k * e := Nat.mul_le_mul_left k (by omega)
        omega
      have cj : k * j + 1 ≤ 67108864 := by
        have : k * j ≤ k * e := Nat.mul_le_mul_left k hj
        omega
      have m1 : IntMulOk (b ^ i) (b ^ j) := mulOk (pow_abs hk) (pow_abs hk) (by omega)
      have m2 : IntMulOk (b ^ j) (b ^ j) := mulOk (pow_abs hk) (pow_abs hk) (by omega)
      have d2 : CDv (n : Int) 2 := cdv (by decide) (by decide)
      unfold ir_raised_b2
      simp [fmod2, fdiv2]
      split
      · refine ⟨m1, m2, d2, hnx _ _ _ (half_lt tp) ⟨i + j, j + j, n / 2, rfl, ?_, ?_, rfl⟩⟩
        · have : n = 2 * (n / 2) + 1 := by omega
          rw [← hij]
          conv => rhs; rw [this]
          grind
        · simp [Int.pow_add]
      · refine ⟨m2, d2, hnx _ _ _ (half_lt tp) ⟨i, j + j, n / 2, rfl, ?_, ?_, rfl⟩⟩
        · have : n = 2 * (n / 2) := by omega
          rw [← hij]
          conv => rhs; rw [this]
          grind
        · simp [Int.pow_add]
  · exact h.elim
/-- a power with any exponent -/
def pw (b e : Int) : Rat := if 0 ≤ e then ((b ^ e.toNat : Int) : Rat) else Rat.divInt 1 (b ^ (-e).toNat)
def φ_power : DSp := fun l M Q _ => match l with
  | [.int b, .int e] => 0 < b ∧ RsOk b (if 0 ≤ e then e else -e) ∧ Q (rt (pw b e)) M
  | _ => False
@[simp] theorem power_s {b e : Int} : φ_power [.int b, .int e] M Q E = (0 < b ∧ RsOk b (if 0 ≤ e then e else -e) ∧ Q (rt (pw b e)) M) := rfl
theorem b_power (g : Γ[18]? = some φ_raised) (h : φ_power ds M Q E) : dSs Γ xm ir_power (endW E) (endS Q) (startD 2 ds) M := by
  unfold φ_power at h
  split at h
  · rename_i b e
    obtain ⟨hb, hr, h⟩ := h
    unfold ir_power
    by_cases he : 0 ≤ e
    · rw [if_pos he] at hr
      simp [startD, he, g, hr, rt_int]
      refine ends_rt ?_
      simpa [pw, he] using h
    · rw [if_neg he] at hr
      simp [startD, he, g, hb, hr]
      refine ends_rt ?_
      simp only [pw, if_neg he] at h
      have hp : 0 < b ^ (-e).toNat := Int.pow_pos hb
      obtain ⟨n, hn⟩ := Int.eq_ofNat_of_zero_le (Int.le_of_lt hp)
      rw [hn] at h ⊢
      rw [rt_lit (by omega) (by simp)]
      exact h
  · exact h.elim
/-! ### roots -/
def φ_root_below : DSp := fun l M Q _ => match l with
  | [.int n] => 0 ≤ n ∧ n.natAbs < 2 ^ 8000 ∧ ∀ r : Int, 0 ≤ r → r * r ≤ n → n < (r + 1) * (r + 1) → Q (.int r) M
  | _ => False
@[simp] theorem root_below_s {n : Int} : φ_root_below [.int n] M Q E = (0 ≤ n ∧ n.natAbs < 2 ^ 8000 ∧ ∀ r : Int, 0 ≤ r → r * r ≤ n → n < (r + 1) * (r + 1) → Q (.int r) M) := rfl
theorem newton {n h q t : Nat} (hq : q = n / h) (hh : 0 < h) (ht : t = (h + q) / 2) : n < (t + 1) * (t + 1) := by
  have h1 : n < (q + 1) * h := by
    have := Nat.lt_mul_div_succ n hh
    rw [hq, Nat.mul_comm]; exact this
  have h2 : h + q + 1 ≤ 2 * (t + 1) := by omega
  have h3 : (h + q + 1) * (h + q + 1) ≤ (2 * (t + 1)) * (2 * (t + 1)) := Nat.mul_le_mul h2 h2
  have h4 : 4 * ((q + 1) * h) ≤ (h + q + 1) * (h + q + 1) := by
    rcases Nat.le_total h (q + 1) with e | e
    · obtain ⟨d, hd⟩ := Nat.exists_eq_add_of_le e
      have : h + q + 1 = 2 * h + d := by omega
      rw [this, hd]
      have : (2 * h + d) * (2 * h + d) = 4 * ((h + d) * h) + d * d := by grind
      omega
    · obtain ⟨d, hd⟩ := Nat.exists_eq_add_of_le e
      have : h + q + 1 = 2 * (q + 1) + d := by omega
      rw [this, hd]
      have : (2 * (q + 1) + d) * (2 * (q + 1) + d) = 4 * ((q + 1) * (q + 1 + d)) + d * d := by grind
      omega
  have h5 : (2 * (t + 1)) * (2 * (t + 1)) = 4 * ((t + 1) * (t + 1)) := by grind
  omega
theorem newton_out {n h q t : Nat} (hq : q = n / h) (hh : 0 < h) (ht : t = (h + q) / 2) (hge : h ≤ t) : h * h ≤ n := by
  have : h ≤ q := by omega
  calc h * h ≤ q * h := Nat.mul_le_mul_right h this
    _ ≤ n := by rw [hq]; exact Nat.div_mul_le_self n h
theorem fdiv_nat (a b : Nat) : (a : Int).fdiv b = (a / b : Nat) := by rw [Int.fdiv_eq_ediv_of_nonneg _ (by omega)]; rfl
theorem bits_nat {n : Nat} (h : 0 < n) : n < 2 ^ (Builtin.Int.intBits n) := by
  unfold Builtin.Int.intBits
  rw [if_neg (by simp; omega)]
  exact Nat.lt_log2_self
theorem b_root_below (h : φ_root_below ds M Q E) : dSs Γ xm ir_root_below (endW E) (endS Q) (startD 3 ds) M := by
  unfold φ_root_below at h
  split at h
  · rename_i n
    obtain ⟨h0, hs, h⟩ := h
    obtain ⟨n, rfl⟩ := Int.eq_ofNat_of_zero_le h0
    unfold ir_root_below
    by_cases h2 : (n : Int) < 2
    · simp [startD, h2]
      refine ends_rt (h _ h0 ?_ ?_)
      · have : n = 0 ∨ n = 1 := by omega
        rcases this with rfl | rfl <;> decide
      · have : n = 0 ∨ n = 1 := by omega
        rcases this with rfl | rfl <;> decide
    · have hb := bits_le hs
      obtain ⟨j, hj⟩ : ∃ j, j = (Builtin.Int.intBits n + 1) / 2 := ⟨_, rfl⟩
      have cs : CShl 1 (j : Int) := ⟨by omega, by
        have : Builtin.Int.intBits 1 = 1 := by decide
        rw [this]; omega⟩
      have e1 : ((Builtin.Int.intBits n : Int) + 1).fdiv 2 = (j : Int) := by rw [hj]; exact fdiv_nat (Builtin.Int.intBits n + 1) 2
      have d2 : ∀ i : Int, CDv i 2 := fun i => cdv (by decide) (by decide)
      simp [startD, h2, d2, e1, cs, s_whl]
      obtain ⟨B, hBe⟩ : ∃ B : Nat, B = 2 ^ j := ⟨_, rfl⟩
      have hBi : (2 : Int) ^ j = (B : Int) := by rw [hBe]; simp
      rw [hBi]
      have hB : n < (B + 1) * (B + 1) := by
        have q1 := bits_nat (n := n) (by omega)
        have q2 : Builtin.Int.intBits n ≤ j + j := by omega
        have q3 : 2 ^ Builtin.Int.intBits n ≤ B * B := by
          rw [hBe, ← Nat.pow_add]; exact Nat.pow_le_pow_right (by decide) q2
        have q4 : B * B ≤ (B + 1) * (B + 1) := Nat.mul_le_mul (by omega) (by omega)
        omega
      have hBp : 0 < B := by rw [hBe]; exact Nat.pow_pos (by decide)
      have hBs : B < 2 ^ 9000 := by rw [hBe]; exact Nat.pow_lt_pow_right (by decide) (by omega)
      refine whl_inv (fun k δ M' => ∃ (c : Nat) (o : Option D), k = c ∧ 0 < c ∧ c < 2 ^ 9000 ∧ n < (c + 1) * (c + 1) ∧ δ = [some (.int n), some (.int c), o] ∧ M' = M) B ⟨B, none, rfl, hBp, hBs, hB, rfl, rfl⟩ ?_
      rintro k δ M' ⟨c, o, rfl, hc, hcs, hn, rfl, rfl⟩ nx hnx
      unfold ir_root_below_c1
      simp
      have d1 : CDv (n : Int) k := cdv (by omega) (by omega)
      obtain ⟨t, ht⟩ : ∃ t, t = (k + n / k) / 2 := ⟨_, rfl⟩
      have e2 : ((k : Int) + (n : Int).fdiv k).fdiv 2 = (t : Int) := by
        rw [fdiv_nat, ht]; exact fdiv_nat (k + n / k) 2
      unfold ir_root_below_b2
      have nt := newton rfl hc ht
      by_cases hge : k ≤ t
      · have : (k : Int) ≤ t := by omega
        simp [d1, d2, e2, hge]
        refine ends_rt (h _ (by omega) ?_ ?_)
        · have := newton_out rfl hc ht hge
          exact_mod_cast this
        · exact_mod_cast hn
      · simp [d1, d2, e2, hge]
        refine hnx _ _ _ ?_ ⟨t, _, rfl, ?_, by omega, nt, rfl, rfl⟩
        · omega
        · rcases Nat.eq_zero_or_pos t with e | e
          · rw [e] at nt; omega
          · exact e
  · exact h.elim
end
end U
end
section
set_option maxHeartbeats 2000000
set_option exponentiation.threshold 10000
namespace U
open PySem PySem.Spec PyProof.Rows L2 DL
section
variable {Γ : List DSp} {xm : Nat → Nat → Option Bool} {ds : List D} {M : Mem} {Q : QD} {E : XD}
/-! ### the law's own small ones -/
def φ_law_draws : DSp := fun l M Q _ => match l with
  | [.lst xs] => ∀ p, M p = none → Q (.ref p) (M.put p (.lst [.lst xs, .int 0, .int 0, .int 1]))
  | _ => False
theorem b_law_draws (h : φ_law_draws ds M Q E) : dSs Γ xm ir_law_draws (endW E) (endS Q) (startD 1 ds) M := by
  unfold φ_law_draws at h
  split at h
  · unfold ir_law_draws
    simp [startD]
    exact fun p hp => ends_rt (h p hp)
  · exact h.elim
def DrS (o : MO) : Prop := ∃ (ns : List Int) (i q s : Int), o = .lst [.lst (ns.map .int), .int i, .int q, .int s] ∧ 0 ≤ i ∧ 0 ≤ q ∧ 0 ≤ s
theorem DrS.new (ns : List Int) : DrS (.lst [.lst (ns.map .int), .int 0, .int 0, .int 1]) := ⟨ns, 0, 0, 1, rfl, by decide, by decide, by decide⟩
def φ_law_draw : DSp := fun l M Q _ => match l with
  | [.ref p, .int n] => 0 < n ∧ n.natAbs < 2 ^ 8000 ∧ (∃ o, M p = some o ∧ DrS o) ∧ ∀ v o, 0 ≤ v → v < n → DrS o → Q (.int v) (M.put p o)
  | _ => False
theorem draw_s {p : Addr} {n : Int} {o : MO} (h0 : 0 < n) (hn : n.natAbs < 2 ^ 8000) (ho : DrS o) (h : ∀ v o, 0 ≤ v → v < n → DrS o → Q (.int v) (M.put p o)) : φ_law_draw [.ref p, .int n] (M.put p o) Q E :=
  ⟨h0, hn, ⟨o, Mem.put_same, ho⟩, fun v o' a b c => by rw [Mem.put_put]; exact h v o' a b c⟩
theorem Mem.put_self {p : Addr} {o : MO} (h : M p = some o) : M.put p o = M := by
  funext b; unfold Mem.put; split
  · rename_i e; rw [e, h]
  · rfl
@[simp] theorem sub_put {p : Addr} {u : Int} {d : D} {xs : List D} {km : Mem → Prop} : wSub (.ref p) (.int u) d (M.put p (.lst xs)) km = opt (ixN xs.length u) fun j => km (M.put p (.lst (xs.set j d))) := by
  rw [sub_ref Mem.put_same]; simp only [Mem.put_put]
@[simp] theorem ix41 : ixN 4 1 = some 1 := by decide
@[simp] theorem ix42 : ixN 4 2 = some 2 := by decide
@[simp] theorem ix43 : ixN 4 3 = some 3 := by decide
theorem fmod_in {a b : Int} (h : 0 < b) : 0 ≤ a.fmod b ∧ a.fmod b < b := ⟨Int.fmod_nonneg_of_pos _ h, Int.fmod_lt_of_pos _ h⟩
theorem at_int {α : Type} {l : List α} {i : Int} (h : 0 ≤ i) : atI l i = l[i.toNat]? := by
  obtain ⟨n, rfl⟩ := Int.eq_ofNat_of_zero_le h
  exact at_nat
theorem b_law_draw (h : φ_law_draw ds M Q E) : dSs Γ xm ir_law_draw (endW E) (endS Q) (startD 4 ds) M := by
  unfold φ_law_draw at h
  split at h
  · rename_i p n
    obtain ⟨h0, hn, ⟨o, ho, ns, i, q, s, rfl, hi, hq, hs⟩, h⟩ := h
    obtain ⟨M0, rfl⟩ : ∃ M0 : Mem, M = M0.put p (.lst [.lst (ns.map .int), .int i, .int q, .int s]) := ⟨M, (Mem.put_self ho).symm⟩
    simp only [Mem.put_put] at h
    have n0 : n ≠ 0 := by omega
    have ms : ∀ a : Int, IntMulOk a 48271 := fun a => .of_right (by decide)
    have ms2 : ∀ a : Int, IntMulOk a 69621 := fun a => .of_right (by decide)
    have d11 : ∀ a : Int, CDv a 11 := fun a => cdv (by decide) (by decide)
    have dn : ∀ a : Int, CDv a n := fun a => cdv n0 (by exact pow_mono hn (by decide))
    have cp : CPow 10 18 := ⟨by decide, by decide, by decide⟩
    have rest : ∀ (i q s : Int) (o2 o3 : Option D), 0 ≤ i → 0 ≤ q → 0 ≤ s → dSs Γ xm (.cons (.ite (.cmp .Gt (.idx (.var 0) (.cst (.int 2))) (.cst (.int 0))) (.cons (.set 3 (.bin .Mod (.blt .int (.cons (.idx (.var 0) (.cst (.int 2))) .nil)) (.var 1))) (.cons (.sub (.var 0) (.cst (.int 2)) (.bin .FloorDiv (.idx (.var 0) (.cst (.int 2))) (.var 1))) (.cons (.ret (.var 3)) .nil))) .nil) (.cons (.sub (.var 0) (.cst (.int 3)) (.bin .Mod (.blt .int (.cons (.bin .Add (.bin .Mult (.idx (.var 0) (.cst (.int 3))) (.cst (.int 69621))) (.cst (.int 7))) .nil)) (.cst (.int 2147483629)))) (.cons (.ret (.bin .Mod (.blt .int (.cons (.bin .FloorDiv (.idx (.var 0) (.cst (.int 3))) (.cst (.int 11))) .nil)) (.var 1))) .nil)))
        (endW E) (endS Q) [some (.ref p), some (.int n), o2, o3] (M0.put p (.lst [.lst (ns.map .int), .int i, .int q, .int s])) := by
      intro i q s o2 o3 hi hq hs
      simp
      split
      · refine ⟨n0, dn _, ends_rt (h _ _ (fmod_in h0).1 (fmod_in h0).2 ⟨ns, i, _, s, rfl, hi, ?_, hs⟩)⟩
        rw [Int.fdiv_eq_ediv_of_nonneg _ (by omega)]
        exact Int.ediv_nonneg hq (by omega)
      · refine ⟨ms2 _, d11 _, n0, ends_rt (h _ _ (fmod_in h0).1 (fmod_in h0).2 ⟨ns, i, q, _, rfl, hi, hq, (fmod_in (by decide)).1⟩)⟩
    unfold ir_law_draw
    simp only [startD, List.map, ss_cons, s_ite]
    simp only [t_and, t_cmp, e_idx, e_var, e_cst, e_blt, a_cons, a_nil]
    simp
    have k : ∀ (o2 : Option D), dSs Γ xm _ _ _ [some (.ref p), some (.int n), o2, none] _ := fun o2 => rest i q s o2 none hi hq hs
    simp at k
    split
    · split
      · rename_i hlt
        have hlt' : i < ns.length := by simpa using hlt
        rw [at_int hi]
        obtain ⟨c, hc⟩ : ∃ c, ns[i.toNat]? = some c := ⟨_, List.getElem?_eq_getElem (by omega)⟩
        simp [hc, cp]
        split
        · simp [ms]
          have := rest (i + 1) c ((s * 48271 + c + 13).fmod 2147483647) (some (.int c)) none (by omega) (by omega) (fmod_in (by decide)).1
          simpa using this
        · simp [ms]
          have := rest (i + 1) q ((s * 48271 + c + 13).fmod 2147483647) (some (.int c)) none (by omega) hq (fmod_in (by decide)).1
          simpa using this
      · exact k
    · exact k
  · exact h.elim
def φ_law_low : DSp := fun l M Q _ => match l with
  | [.int a, .int b] => b ≠ 0 ∧ b.natAbs < 2 ^ 9000 ∧ Q (rt (Rat.divInt a b)) M
  | _ => False
@[simp] theorem law_low_s {a b : Int} : φ_law_low [.int a, .int b] M Q E = (b ≠ 0 ∧ b.natAbs < 2 ^ 9000 ∧ Q (rt (Rat.divInt a b)) M) := rfl
theorem b_law_low (h : φ_law_low ds M Q E) : dSs Γ xm ir_law_low (endW E) (endS Q) (startD 4 ds) M := by
  unfold φ_law_low at h
  split at h
  · rename_i a b
    obtain ⟨h0, hs, h⟩ := h
    unfold ir_law_low
    have hp : 0 < Int.gcd a b := Int.gcd_pos_of_ne_zero_right a h0
    have hl : Int.gcd a b ≤ b.natAbs := Nat.gcd_le_right _ (by omega)
    simp [startD, s_whl]
    refine euclid (st := fun x y => [some (.int a), some (.int b), some (.int x), some (.int y)]) (by split <;> omega) (by split <;> omega) ?_ ?_ ?_
    · intro x y QT hq
      unfold ir_law_low_c1
      simpa using hq
    · intro x y E' hy hn
      unfold ir_law_low_b2
      simp [hy]
      exact hn
    · simp [gcd_abs]
      have hq := quo_divInt (a := a) h0 rfl
      by_cases hn : 0 < b
      · rw [if_neg (by omega)] at hq
        simp [hn]
        exact ⟨cdv (by omega) (by omega), cdv (by omega) (by omega), ends_rt (by rw [hq]; exact h)⟩
      · rw [if_pos (by omega)] at hq
        simp [hn]
        exact ⟨cdv (by omega) (by omega), cdv (by omega) (by omega), ends_rt (by rw [hq]; exact h)⟩
  · exact h.elim
/-- data that may be compared -/
def okD : Nat → D → Bool
  | _, .non => true
  | _, .bl _ => true
  | _, .int _ => true
  | _, .str _ => true
  | k + 1, .tup xs => decide (xs.length ≤ 4000000) && xs.all (okD k)
  | k + 1, .lst xs => decide (xs.length ≤ 4000000) && xs.all (okD k)
  | _, _ => false
def φ_law_same (k : Nat) : DSp := fun l M Q _ => match l with
  | [x, y] => x = y ∧ okD k x = true ∧ Q (.bl true) M
  | _ => False
theorem same_s {k : Nat} {x y : D} (e : x = y) (h : okD k x = true) : φ_law_same k [x, y] M Q E = Q (.bl true) M := propext ⟨fun h => h.2.2, fun q => ⟨e, h, q⟩⟩
theorem rngD_get {d : D} {n : Nat} (h : d ∈ rngD 0 1 n) : ∃ i : Nat, i < n ∧ d = .int i := by
  unfold rngD at h
  obtain ⟨i, hi, rfl⟩ := List.mem_map.mp h
  exact ⟨i, List.mem_range.mp hi, by simp⟩
theorem b_law_same {k : Nat} (g : ∀ k', k = k' + 1 → Γ[24]? = some (φ_law_same k')) (h : φ_law_same k ds M Q E) : dSs Γ xm ir_law_same (endW E) (endS Q) (startD 3 ds) M := by
  unfold φ_law_same at h
  split at h
  · rename_i x y
    obtain ⟨rfl, ho, h⟩ := h
    have comp : ∀ (xs : List D), (∀ k', k = k' + 1 → xs.length ≤ 4000000 ∧ xs.all (okD k') = true) → (∃ k', k = k' + 1) → (x = .tup xs ∨ x = .lst xs) → ∀ p, M p = none →
        lcGo (fun d M k => dT Γ ir_law_same_t1 W0 [some x, some x, some d] M fun b M2 => if b = true then dE Γ ir_law_same_e2 W0 [some x, some x, some d] M2 fun y M3 => k (some y) M3 else k none M2) (fun _ => True) p (fun es M3 => (endS Q).rt (D.bl (decide ((es.length : Int) = 0))) M3) (rngD 0 1 xs.length) [] (M.put p (.lst [])) := by
      intro xs hk ⟨k', ek⟩ hx p hp
      obtain ⟨hl, ha⟩ := hk k' ek
      refine lc_pure (g := fun _ => none) hp (fun _ => trivial) _ _ (fun d hd acc' kk hkk => ?_) ?_ ?_
      · obtain ⟨i, hi, rfl⟩ := rngD_get hd
        obtain ⟨c, hc⟩ : ∃ c, xs[i]? = some c := ⟨_, List.getElem?_eq_getElem hi⟩
        have oc : okD k' c = true := (List.all_eq_true.mp ha) c (List.mem_of_getElem? hc)
        have gg := g k' ek
        unfold ir_law_same_t1
        rcases hx with rfl | rfl <;> simp [gg, at_nat, hc, same_s rfl oc] <;> exact hkk
      · simp [rngD, sizeLine_eq]; omega
      · simp
        exact ends_rt h
    unfold ir_law_same
    cases x with
    | non => simp [startD]; exact ends_rt h
    | bl b => simp [startD]; exact ends_rt h
    | int i => simp [startD]; exact ends_rt h
    | str s => simp [startD]; exact ends_rt h
    | tup xs =>
      cases k with
      | zero => simp [okD] at ho
      | succ k' =>
        simp [okD] at ho
        simp [startD, wipeD]
        refine ⟨⟨by omega, by omega⟩, fun p hp => ?_⟩
        have := comp xs (fun k'' e => by cases e; exact ⟨ho.1, by simpa using ho.2⟩) ⟨k', rfl⟩ (.inl rfl) p hp
        simpa using this
    | lst xs =>
      cases k with
      | zero => simp [okD] at ho
      | succ k' =>
        simp [okD] at ho
        simp [startD, wipeD]
        refine ⟨⟨by omega, by omega⟩, fun p hp => ?_⟩
        have := comp xs (fun k'' e => by cases e; exact ⟨ho.1, by simpa using ho.2⟩) ⟨k', rfl⟩ (.inr rfl) p hp
        simpa using this
    | _ => simp [okD] at ho
  · exact h.elim
/-- calls that fail with BadPlan -/
def φ_law_bad : DSp := fun l M Q _ => match l with
  | [.fn j, x, y] => ((j = 2 ∧ badFr x y) ∨ (j = 8 ∧ (∃ q, x = rt q ∧ Sz 4000 q) ∧ y = rt 0)) ∧ Q (.bl true) M
  | _ => False
@[simp] theorem law_bad_2 {x y : D} : φ_law_bad [.fn 2, x, y] M Q E = (badFr x y ∧ Q (.bl true) M) := by simp [φ_law_bad]
@[simp] theorem law_bad_8 {q : Rat} : φ_law_bad [.fn 8, rt q, rt 0] M Q E = (Sz 4000 q ∧ Q (.bl true) M) := by simp [φ_law_bad, rt_inj]
theorem b_law_bad (hx : xm 0 0 = some true) (g2 : Γ[2]? = some φ_fraction) (g8 : Γ[8]? = some φ_over) (h : φ_law_bad ds M Q E) : dSs Γ xm ir_law_bad (endW E) (endS Q) (startD 3 ds) M := by
  unfold φ_law_bad at h
  split at h
  · rename_i j x y
    obtain ⟨hj, h⟩ := h
    unfold ir_law_bad
    rcases hj with ⟨rfl, hb⟩ | ⟨rfl, ⟨q, rfl, hq⟩, rfl⟩
    · simp [startD, g2]
      refine .inr ⟨hb, ?_⟩
      simp [hx]
      exact ends_rt h
    · simp [startD, g8, φ_over]
      refine ⟨hq, ⟨by decide, by decide⟩, ?_⟩
      simp [hx]
      exact ends_rt h
  · exact h.elim
end
end U
end
section
set_option maxHeartbeats 2000000
set_option exponentiation.threshold 10000
namespace U
open PySem PySem.Spec PyProof.Rows L2 DL
section
variable {Γ : List DSp} {xm : Nat → Nat → Option Bool} {ds : List D} {M : Mem} {Q : QD} {E : XD}
/-- n has k digits -/
def Dg (b n k : Nat) : Prop := n < b ^ k ∧ (k = 0 ∨ b ^ (k - 1) ≤ n)
def φ_digits_in : DSp := fun l M Q _ => match l with
  | [.int n, .int b] => 0 ≤ n ∧ n.natAbs < 2 ^ 8000 ∧ 2 ≤ b ∧ b.natAbs < 2 ^ 8000 ∧ ∀ k M', Dg b.toNat n.toNat k → M.le M' → Q (.int k) M'
  | _ => False
theorem rngD_down (t : Nat) : rngD (t : Int) (-1) (t + 1) = .int t :: rngD ((t : Int) - 1) (-1) t := by
  unfold rngD
  rw [List.range_succ_eq_map]
  simp
  intro a _
  omega
theorem rngD_zero (lo c : Int) : rngD lo c 0 = [] := rfl
/-- the row of squares -/
def sqs (b i : Nat) : List D := (List.range (i + 1)).map fun k => .int ((b ^ 2 ^ k : Nat) : Int)
theorem sqs_len (b i : Nat) : (sqs b i).length = i + 1 := by simp [sqs]
theorem sqs_get {b i j : Nat} (h : j ≤ i) : (sqs b i)[j]? = some (.int ((b ^ 2 ^ j : Nat) : Int)) := by
  unfold sqs
  rw [List.getElem?_map, List.getElem?_range (by omega)]
  rfl
theorem sqs_last (b i : Nat) : atI (sqs b i) (-1) = some (.int ((b ^ 2 ^ i : Nat) : Int)) := by
  unfold atI ixN
  rw [sqs_len, if_neg (by decide), if_pos (by omega)]
  show (sqs b i)[_]? = _
  have : -1 + ((i + 1 : Nat) : Int) = (i : Nat) := by omega
  rw [this]
  exact sqs_get (Nat.le_refl _)
theorem sqs_succ (b i : Nat) : sqs b i ++ [.int ((b ^ 2 ^ (i + 1) : Nat) : Int)] = sqs b (i + 1) := by
  unfold sqs
  rw [List.range_succ (n := i + 1), List.map_append]
  rfl
theorem sq_pow (b i : Nat) : b ^ 2 ^ i * b ^ 2 ^ i = b ^ 2 ^ (i + 1) := by
  rw [← Nat.pow_add]; congr 1; rw [Nat.pow_succ]; omega
theorem dg_step {b m e k : Nat} (hb : 2 ≤ b) (h : b ^ e ≤ m) (d : Dg b (m / b ^ e) k) : Dg b m (k + e) := by
  have hp : 0 < b ^ e := Nat.pow_pos (by omega)
  obtain ⟨h1, h2⟩ := d
  have h3 : 1 ≤ m / b ^ e := (Nat.le_div_iff_mul_le hp).mpr (by omega)
  have hk : k ≠ 0 := by rintro rfl; simp at h1; omega
  refine ⟨?_, .inr ?_⟩
  · rw [Nat.pow_add]; exact (Nat.div_lt_iff_lt_mul hp).mp h1
  · rcases h2 with h2 | h2
    · exact absurd h2 hk
    · have := (Nat.le_div_iff_mul_le hp).mp h2
      rw [← Nat.pow_add] at this
      have e1 : k - 1 + e = k + e - 1 := by omega
      rwa [e1] at this
theorem dg_last {b m : Nat} (h : m < b) : Dg b m (if 0 < m then 1 else 0) := by
  split
  · exact ⟨by simpa using h, .inr (by simp; omega)⟩
  · exact ⟨by simp; omega, .inl rfl⟩
theorem b_digits_in (h : φ_digits_in ds M Q E) : dSs Γ xm ir_digits_in (endW E) (endS Q) (startD 5 ds) M := by
  unfold φ_digits_in at h
  split at h
  · rename_i n b
    obtain ⟨hn0, hns, hb2, hbs, h⟩ := h
    obtain ⟨n, rfl⟩ := Int.eq_ofNat_of_zero_le hn0
    obtain ⟨b, rfl⟩ := Int.eq_ofNat_of_zero_le (show 0 ≤ b by omega)
    simp only [Int.toNat_natCast] at h
    have hb2' : 2 ≤ b := by omega
    have hns' : n < 2 ^ 8000 := by simpa using hns
    have hbs' : b < 2 ^ 8000 := by simpa using hbs
    unfold ir_digits_in
    simp only [startD, List.map, ss_cons, s_set, e_mls, a_cons, a_nil, e_var]
    simp
    intro p hp
    have s0 : [D.int (b : Int)] = sqs b 0 := by simp [sqs, Int.pow_succ]
    rw [s0, s_whl]
    have cast_le : ∀ x y : Nat, ((x : Int) ≤ (y : Int)) = (x ≤ y) := fun x y => by simp
    refine whl_inv (fun k δ M' => ∃ i : Nat, k = 13 - i ∧ i ≤ 13 ∧ (∀ j, j < i → b ^ 2 ^ j ≤ n) ∧ δ = [some (.int n), some (.int b), some (.ref p), none, none] ∧ M' = M.put p (.lst (sqs b i))) 13 ⟨0, rfl, by omega, fun j hj => by omega, rfl, rfl⟩ ?_
    rintro k δ M' ⟨i, rfl, hi, hj, rfl, rfl⟩ nx hnx
    unfold ir_digits_in_c1
    simp only [t_cmp, e_idx, e_var, e_neg, e_cst, DL.neg_int, List.getElem?_cons_zero, List.getElem?_cons_succ, opt_s, idx_ref, lsM_put, sqs_last, cmp_le, chn_bl, cast_le]
    by_cases hle : b ^ 2 ^ i ≤ n
    · simp only [hle, decide_true, if_true]
      have hlt : i < 13 := by
        rcases Nat.lt_or_ge i 13 with q | q
        · exact q
        · have q1 : 2 ^ 2 ^ 13 ≤ b ^ 2 ^ i := Nat.le_trans (Nat.pow_le_pow_left hb2' _) (Nat.pow_le_pow_right (by omega) (Nat.pow_le_pow_right (by decide) q))
          have q2 : 2 ^ 8000 < 2 ^ 2 ^ 13 := Nat.pow_lt_pow_right (by decide) (by decide)
          omega
      have hbi : b ^ 2 ^ i < 2 ^ 8000 := Nat.lt_of_le_of_lt hle hns'
      have mo : IntMulOk ((b ^ 2 ^ i : Nat) : Int) ((b ^ 2 ^ i : Nat) : Int) := mulOk (m := 8000) (n := 8000) (by simpa using hbi) (by simpa using hbi) (by decide)
      unfold ir_digits_in_b2
      simp only [ss_cons, ss_nil, s_drp, e_app, e_bin, e_idx, e_var, e_neg, e_cst, DL.neg_int, List.getElem?_cons_zero, List.getElem?_cons_succ, opt_s, idx_ref, lsM_put, sqs_last, bin_mul, app_put]
      refine ⟨mo, by rw [sqs_len, sizeLine_eq]; omega, ?_⟩
      have e1 : ((b ^ 2 ^ i : Nat) : Int) * ((b ^ 2 ^ i : Nat) : Int) = ((b ^ 2 ^ (i + 1) : Nat) : Int) := by
        rw [← Int.natCast_mul, sq_pow]
      rw [e1, sqs_succ]
      refine hnx _ _ _ ?_ ⟨i + 1, rfl, by omega, fun j hj' => ?_, rfl, rfl⟩
      · omega
      · rcases Nat.lt_or_ge j i with q | q
        · exact hj j q
        · have : j = i := by omega
          rw [this]; exact hle
    · simp only [hle, decide_false]
      simp only [ss_cons, ss_nil, s_set, s_for, i_rng3, e_bin, e_blt, a_cons, a_nil, e_var, e_neg, e_cst, DL.neg_int, List.getElem?_cons_zero, List.getElem?_cons_succ, List.set_cons_succ, List.set_cons_zero, opt_s, len_ref, lsM_put, sqs_len, bin_sub, rg3_int]
      have e1 : ((i + 1 : Nat) : Int) - 1 = (i : Int) := by omega
      rw [e1, if_neg (by decide)]
      refine ⟨(i - -1 : Int).toNat, RgC.neg (by omega) (by omega) (by decide) (by decide), ?_⟩
      have e2 : ((i : Int) - -1).toNat = i + 1 := by omega
      rw [e2, rngD_down]
      refine for_inv (fun ds δ M' => ∃ (t m f : Nat) (o : Option D), t ≤ i + 1 ∧ ds = rngD ((t : Int) - 1) (-1) t ∧ δ = [some (.int m), some (.int b), some (.ref p), some (.int f), o] ∧ M' = M.put p (.lst (sqs b i)) ∧ m < b ^ 2 ^ t ∧ m < 2 ^ 8000 ∧ ∀ k, Dg b m k → Dg b n (k + f)) ?_ ?_ _ _ _ ⟨i + 1, n, 0, none, Nat.le_refl _, ?_, rfl, rfl, ?_, hns', fun k hk => hk⟩
      · rintro d ds δ M' ⟨t, m, f, o, ht, hd, rfl, rfl, hm, hms, hdg⟩
        rcases t with _ | t
        · simp [rngD_zero] at hd
        have e3 : ((t + 1 : Nat) : Int) - 1 = (t : Int) := by omega
        rw [e3, rngD_down] at hd
        simp at hd
        obtain ⟨rfl, rfl⟩ := hd
        refine ⟨trivial, fun nx2 hn2 => ?_⟩
        have gt : atI (sqs b i) (t : Int) = some (.int ((b ^ 2 ^ t : Nat) : Int)) := by rw [at_nat, sqs_get (by omega)]
        unfold ir_digits_in_b3
        simp only [tg_nm, List.set_cons_succ, List.set_cons_zero, ss_cons, ss_nil, s_ite, t_cmp, e_idx, e_var, List.getElem?_cons_zero, List.getElem?_cons_succ, opt_s, idx_ref, lsM_put, gt, cmp_le, chn_bl, cast_le]
        by_cases hle2 : b ^ 2 ^ t ≤ m
        · simp only [hle2, decide_true, if_true]
          have hp : 0 < b ^ 2 ^ t := Nat.pow_pos (by omega)
          have dv : CDv (m : Int) ((b ^ 2 ^ t : Nat) : Int) := cdv (by omega) (by have : b ^ 2 ^ t < 2 ^ 9000 := Nat.lt_of_le_of_lt hle2 (pow_mono hms (by decide)); simpa using this)
          have cs : CShl 1 (t : Int) := ⟨by omega, by
            have : Builtin.Int.intBits 1 = 1 := by decide
            rw [this]; omega⟩
          simp only [ss_cons, ss_nil, s_aug, e_bin, e_idx, e_var, e_cst, List.getElem?_cons_zero, List.getElem?_cons_succ, opt_s, idx_ref, lsM_put, gt, aug_div, aug_add, List.set_cons_succ, List.set_cons_zero, bin_shl]
          refine ⟨dv, cs, ?_⟩
          refine hn2 _ _ ⟨t, m / b ^ 2 ^ t, f + 2 ^ t, some (.int t), by omega, rfl, ?_, rfl, ?_, ?_, ?_⟩
          · rw [fdiv_nat]
            simp
          · rw [Nat.div_lt_iff_lt_mul hp, sq_pow]; exact hm
          · exact Nat.lt_of_le_of_lt (Nat.div_le_self _ _) hms
          · intro k hk
            have := hdg _ (dg_step hb2' hle2 hk)
            have e4 : k + (f + 2 ^ t) = k + 2 ^ t + f := by omega
            rw [e4]; exact this
        · simp only [hle2, decide_false]
          exact hn2 _ _ ⟨t, m, f, some (.int t), by omega, rfl, rfl, rfl, by omega, hms, hdg⟩
      · rintro δ M' ⟨t, m, f, o, ht, hd, rfl, rfl, hm, hms, hdg⟩
        rcases t with _ | t
        · refine ⟨trivial, ?_⟩
          have hm' : m < b := by simpa using hm
          have fin := hdg _ (dg_last hm')
          have := h _ (M.put p (.lst (sqs b i))) fin (Mem.le_put hp)
          simp
          split
          · rename_i q
            rw [if_pos q] at this
            refine ends_rt ?_
            rw [Int.add_comm]
            simpa using this
          · rename_i q
            rw [if_neg q] at this
            refine ends_rt ?_
            simpa using this
        · rw [show ((t + 1 : Nat) : Int) - 1 = (t : Int) by omega, rngD_down] at hd; cases hd
      · rw [show ((i + 1 : Nat) : Int) - 1 = (i : Int) by omega, rngD_down]
      · have : b ^ 2 ^ i ≤ b ^ 2 ^ (i + 1) := Nat.pow_le_pow_right (by omega) (Nat.pow_le_pow_right (by decide) (by omega))
        omega
  · exact h.elim
end
end U
end
section
set_option maxHeartbeats 4000000
namespace U
open PySem PySem.Spec PyProof.Rows L2 DL
/-- the contracts that law calls -/
structure G0 (Γ : List DSp) : Prop where
  g0 : Γ[0]? = some φ_is_whole
  g1 : Γ[1]? = some φ_shared
  g2 : Γ[2]? = some φ_fraction
  g3 : Γ[3]? = some φ_fraction1
  g4 : Γ[4]? = some φ_is_fraction
  g5 : Γ[5]? = some φ_plus
  g6 : Γ[6]? = some φ_minus
  g7 : Γ[7]? = some φ_times
  g8 : Γ[8]? = some φ_over
  g9 : Γ[9]? = some φ_against
  g10 : Γ[10]? = some φ_sized
  g11 : Γ[11]? = some φ_order
  g12 : Γ[12]? = some φ_below
  g13 : Γ[13]? = some φ_at_most
  g14 : Γ[14]? = some φ_least_of
  g15 : Γ[15]? = some φ_most_of
  g16 : Γ[16]? = some φ_floor
  g17 : Γ[17]? = some φ_ceiling
  g18 : Γ[18]? = some φ_raised
  g19 : Γ[19]? = some φ_power
  g20 : Γ[20]? = some φ_root_below
  g21 : Γ[21]? = some φ_digits_in
  g22 : Γ[22]? = some φ_law_draws
  g23 : Γ[23]? = some φ_law_draw
  g24 : Γ[24]? = some (φ_law_same 4)
  g25 : Γ[25]? = some φ_law_low
  g26 : Γ[26]? = some φ_law_bad
@[simp] theorem G0.s0 {Γ : List DSp} (G : G0 Γ) : Γ[0]? = some φ_is_whole := G.g0
@[simp] theorem G0.s1 {Γ : List DSp} (G : G0 Γ) : Γ[1]? = some φ_shared := G.g1
@[simp] theorem G0.s2 {Γ : List DSp} (G : G0 Γ) : Γ[2]? = some φ_fraction := G.g2
@[simp] theorem G0.s3 {Γ : List DSp} (G : G0 Γ) : Γ[3]? = some φ_fraction1 := G.g3
@[simp] theorem G0.s4 {Γ : List DSp} (G : G0 Γ) : Γ[4]? = some φ_is_fraction := G.g4
@[simp] theorem G0.s5 {Γ : List DSp} (G : G0 Γ) : Γ[5]? = some φ_plus := G.g5
@[simp] theorem G0.s6 {Γ : List DSp} (G : G0 Γ) : Γ[6]? = some φ_minus := G.g6
@[simp] theorem G0.s7 {Γ : List DSp} (G : G0 Γ) : Γ[7]? = some φ_times := G.g7
@[simp] theorem G0.s8 {Γ : List DSp} (G : G0 Γ) : Γ[8]? = some φ_over := G.g8
@[simp] theorem G0.s9 {Γ : List DSp} (G : G0 Γ) : Γ[9]? = some φ_against := G.g9
@[simp] theorem G0.s10 {Γ : List DSp} (G : G0 Γ) : Γ[10]? = some φ_sized := G.g10
@[simp] theorem G0.s11 {Γ : List DSp} (G : G0 Γ) : Γ[11]? = some φ_order := G.g11
@[simp] theorem G0.s12 {Γ : List DSp} (G : G0 Γ) : Γ[12]? = some φ_below := G.g12
@[simp] theorem G0.s13 {Γ : List DSp} (G : G0 Γ) : Γ[13]? = some φ_at_most := G.g13
@[simp] theorem G0.s14 {Γ : List DSp} (G : G0 Γ) : Γ[14]? = some φ_least_of := G.g14
@[simp] theorem G0.s15 {Γ : List DSp} (G : G0 Γ) : Γ[15]? = some φ_most_of := G.g15
@[simp] theorem G0.s16 {Γ : List DSp} (G : G0 Γ) : Γ[16]? = some φ_floor := G.g16
@[simp] theorem G0.s17 {Γ : List DSp} (G : G0 Γ) : Γ[17]? = some φ_ceiling := G.g17
@[simp] theorem G0.s18 {Γ : List DSp} (G : G0 Γ) : Γ[18]? = some φ_raised := G.g18
@[simp] theorem G0.s19 {Γ : List DSp} (G : G0 Γ) : Γ[19]? = some φ_power := G.g19
@[simp] theorem G0.s20 {Γ : List DSp} (G : G0 Γ) : Γ[20]? = some φ_root_below := G.g20
@[simp] theorem G0.s21 {Γ : List DSp} (G : G0 Γ) : Γ[21]? = some φ_digits_in := G.g21
@[simp] theorem G0.s22 {Γ : List DSp} (G : G0 Γ) : Γ[22]? = some φ_law_draws := G.g22
@[simp] theorem G0.s23 {Γ : List DSp} (G : G0 Γ) : Γ[23]? = some φ_law_draw := G.g23
@[simp] theorem G0.s24 {Γ : List DSp} (G : G0 Γ) : Γ[24]? = some (φ_law_same 4) := G.g24
@[simp] theorem G0.s25 {Γ : List DSp} (G : G0 Γ) : Γ[25]? = some φ_law_low := G.g25
@[simp] theorem G0.s26 {Γ : List DSp} (G : G0 Γ) : Γ[26]? = some φ_law_bad := G.g26
@[simp] theorem ok_int {k : Nat} {i : Int} : okD k (.int i) = true := by cases k <;> rfl
@[simp] theorem ok_bl {k : Nat} {i : Bool} : okD k (.bl i) = true := by cases k <;> rfl
@[simp] theorem ok_str {k : Nat} {i : Str} : okD k (.str i) = true := by cases k <;> rfl
@[simp] theorem ok_non {k : Nat} : okD k .non = true := by cases k <;> rfl
@[simp] theorem ok_tup {k : Nat} {xs : List D} : okD (k + 1) (.tup xs) = (decide (xs.length ≤ 4000000) && xs.all (okD k)) := rfl
@[simp] theorem ok_lst {k : Nat} {xs : List D} : okD (k + 1) (.lst xs) = (decide (xs.length ≤ 4000000) && xs.all (okD k)) := rfl
@[simp] theorem ok_rt {k : Nat} {q : Rat} : okD (k + 1) (rt q) = true := by simp [rt]
section
variable {Γ : List DSp} {xm : Nat → Nat → Option Bool} {ds : List D} {M : Mem} {Q : QD} {E : XD} {W : WD} {Dn : En}
variable {s a2 a7 a8 a9 a10 a11 a12 a13 a14 a15 a16 a17 a18 a19 a20 a21 a22 a23 a24 a25 : Option D} {p : Addr} {o : MO} {a b c d : Int}
@[simp] theorem same_q {k : Nat} {x y : D} : φ_law_same k [x, y] M Q E = (x = y ∧ okD k x = true ∧ Q (.bl true) M) := rfl
@[simp] theorem rt_injs {p q : Rat} : (rt p = rt q) = (p = q) := propext rt_inj
@[simp] theorem plus_s {x y : Rat} : φ_plus [rt x, rt y] M Q E = (Sz 4000 x ∧ Sz 4000 y ∧ Q (rt (x + y)) M) := bin2_s
@[simp] theorem minus_s {x y : Rat} : φ_minus [rt x, rt y] M Q E = (Sz 4000 x ∧ Sz 4000 y ∧ Q (rt (x - y)) M) := bin2_s
@[simp] theorem times_s {x y : Rat} : φ_times [rt x, rt y] M Q E = (Sz 4000 x ∧ Sz 4000 y ∧ Q (rt (x * y)) M) := bin2_s
@[simp] theorem order_s {x y : Rat} : φ_order [rt x, rt y] M Q E = (Sz 4000 x ∧ Sz 4000 y ∧ Q (.int (cmpR x y)) M) := bin2_s
@[simp] theorem below_s {x y : Rat} : φ_below [rt x, rt y] M Q E = (Sz 4000 x ∧ Sz 4000 y ∧ Q (.bl (decide (x < y))) M) := bin2_s
@[simp] theorem at_most_s {x y : Rat} : φ_at_most [rt x, rt y] M Q E = (Sz 4000 x ∧ Sz 4000 y ∧ Q (.bl (decide (x ≤ y))) M) := bin2_s
@[simp] theorem against_s {x : Rat} : φ_against [rt x] M Q E = (Sz 8000 x ∧ Q (rt (-x)) M) := un1_s
@[simp] theorem sized_s {x : Rat} : φ_sized [rt x] M Q E = (Sz 8000 x ∧ Q (rt (ab x)) M) := un1_s
@[simp] theorem floor_s {x : Rat} : φ_floor [rt x] M Q E = (Sz 8000 x ∧ Q (.int x.floor) M) := un1_s
@[simp] theorem ceiling_s {x : Rat} : φ_ceiling [rt x] M Q E = (Sz 8000 x ∧ Q (.int x.ceil) M) := un1_s
theorem dlt (hb : 0 < b) (hd : 0 < d) : Rat.divInt a b < Rat.divInt c d ↔ a * d < c * b := by
  have hb' : (0 : Rat) < (b : Rat) := Rat.intCast_pos.mpr hb
  have hd' : (0 : Rat) < (d : Rat) := Rat.intCast_pos.mpr hd
  rw [Rat.divInt_eq_div, Rat.divInt_eq_div, Rat.div_lt_iff hb']
  have : (c : Rat) / d * b = (c * b) / d := by grind
  rw [this, Rat.lt_div_iff hd']
  constructor
  · intro h; exact_mod_cast h
  · intro h; exact_mod_cast h
theorem dle (hb : 0 < b) (hd : 0 < d) : Rat.divInt a b ≤ Rat.divInt c d ↔ a * d ≤ c * b := by
  rw [← Rat.not_lt, dlt hd hb, Int.not_lt]
theorem int_div (x : Int) : Rat.divInt x 1 = (x : Rat) := by rw [Rat.divInt_eq_div, Rat.intCast_one]; grind
theorem int_le (hb : 0 < b) {x : Int} : (x : Rat) ≤ Rat.divInt a b ↔ x * b ≤ a := by
  rw [← int_div, dle (by decide) hb]; simp
theorem floor_lo (hb : 0 < b) : (Rat.divInt a b).floor * b ≤ a := (int_le hb).mp (Rat.le_floor_iff.mp (Int.le_refl _))
theorem floor_hi (hb : 0 < b) : a < ((Rat.divInt a b).floor + 1) * b := by
  have h : ¬ ((Rat.divInt a b).floor + 1 ≤ (Rat.divInt a b).floor) := by omega
  rw [Rat.le_floor_iff, int_le hb] at h
  omega
theorem ceil_v (hb : 0 < b) : (Rat.divInt a b).ceil = if (Rat.divInt a b).floor * b = a then (Rat.divInt a b).floor else (Rat.divInt a b).floor + 1 := by
  split
  · rename_i h
    have : Rat.divInt a b = ((Rat.divInt a b).floor : Rat) := by
      conv => lhs; rw [← h]
      rw [← int_div, Rat.divInt_eq_divInt_iff (by omega) (by decide)]
      omega
    conv => lhs; rw [this]
    exact Rat.ceil_intCast _
  · rename_i h
    have h1 : (Rat.divInt a b).ceil ≤ (Rat.divInt a b).floor + 1 := Rat.ceil_le_iff.mpr (Rat.le_of_lt (Rat.lt_floor_add_one _))
    have h2 : ¬ (Rat.divInt a b).ceil ≤ (Rat.divInt a b).floor := by
      rw [Rat.ceil_le_iff]
      intro h3
      have h4 := Rat.le_antisymm h3 (Rat.floor_le _)
      rw [← int_div, Rat.divInt_eq_divInt_iff (by omega) (by decide)] at h4
      omega
    omega
theorem gcd_back (hb : 0 < b) : b.fdiv (Rat.divInt a b).den = (Int.gcd a b : Nat) := by
  have hp : 0 < Int.gcd a b := Int.gcd_pos_of_ne_zero_right a (by omega)
  rw [Rat.den_divInt, if_neg (by omega), Int.gcd_comm b a]
  obtain ⟨n, rfl⟩ := Int.eq_ofNat_of_zero_le (show 0 ≤ b by omega)
  have dv : Int.gcd a n ∣ n := Nat.gcd_dvd_right _ _
  rw [fdiv_nat]
  congr 1
  exact Nat.div_div_self dv (by omega)
theorem for_cons {st : D → WpS} {ch : Mem → Prop} {x : D} {xs : List D} {δ : Ev} : forGo st ch Dn (x :: xs) δ M = (ch M ∧ st x { nx := forGo st ch Dn xs, ct := forGo st ch Dn xs, bk := Dn.nx, rt := Dn.rt } δ M) := rfl
theorem order_v (hb : 0 < b) (hd : 0 < d) : cmpR (Rat.divInt a b) (Rat.divInt c d) = if c * b < a * d then 1 else if a * d < c * b then -1 else 0 := by
  unfold cmpR
  simp only [dlt hd hb, dlt hb hd]
  split <;> split <;> first | rfl | omega
theorem turn_2 (G : G0 Γ) (ha : -100 ≤ a) (ha' : a < 100) (hb : 1 ≤ b) (hb' : b ≤ 60) (hc : -100 ≤ c) (hc' : c < 100) (hd : 1 ≤ d) (hd' : d ≤ 60)
    (rest : ∀ a15 a16 a17 : Option D, dSs Γ xm ir_law_k00_k14 W Dn [s, some (.ref p), a2, some (.int a), some (.int b), some (.int c), some (.int d), a7, a8, some (rt (Rat.divInt a b)), some (rt (Rat.divInt c d)), a11, a12, a13, a14, a15, a16, a17, a18, a19, a20, a21, a22, a23, a24, a25] M) :
    dSs Γ xm ir_law_k00_k21 W Dn [s, some (.ref p), a2, some (.int a), some (.int b), some (.int c), some (.int d), a7, a8, some (rt (Rat.divInt a b)), some (rt (Rat.divInt c d)), a11, a12, a13, a14, a15, a16, a17, a18, a19, a20, a21, a22, a23, a24, a25] M := by
  have b0 : b ≠ 0 := by omega
  have d0 : d ≠ 0 := by omega
  have sz : ∀ x y : Int, y ≠ 0 → -100 ≤ x → x ≤ 100 → -100 ≤ y → y ≤ 100 → Sz 4000 (Rat.divInt x y) := fun x y h0 h1 h2 h3 h4 => by
    have : Sz 20 (Rat.divInt x y) := divInt_sz h0 (by omega) (by omega)
    exact this.mono (by decide)
  have sx := sz a b b0 (by omega) (by omega) (by omega) (by omega)
  have sy := sz c d d0 (by omega) (by omega) (by omega) (by omega)
  have sx8 := sx.mono (show 4000 ≤ 8000 by decide)
  have mo : ∀ x y : Int, -100 ≤ x → x ≤ 100 → IntMulOk x y := fun x y h1 h2 => .of_left (intBits_le_64 (by omega) (by omega))
  have mor : ∀ x y : Int, -100 ≤ x → x ≤ 100 → IntMulOk y x := fun x y h1 h2 => .of_right (intBits_le_64 (by omega) (by omega))
  have mad := mo a d (by omega) (by omega)
  have mcb := mo c b (by omega) (by omega)
  have mb : ∀ x, IntMulOk x b := fun x => mor b x (by omega) (by omega)
  have mw : ∀ x, IntMulOk x b := mb
  have eo : cmpR (Rat.divInt a b) (Rat.divInt c d) = if c * b < a * d then 1 else if a * d < c * b then -1 else 0 := order_v (by omega) (by omega)
  have el : (Rat.divInt a b < Rat.divInt c d) = (a * d < c * b) := propext (dlt (by omega) (by omega))
  have el2 : (Rat.divInt c d < Rat.divInt a b) = (c * b < a * d) := propext (dlt (by omega) (by omega))
  have ee : (Rat.divInt a b ≤ Rat.divInt c d) = (a * d ≤ c * b) := propext (dle (by omega) (by omega))
  have f1 := floor_lo (a := a) (b := b) (by omega)
  have f2 := floor_hi (a := a) (b := b) (by omega)
  have f3 := ceil_v (a := a) (b := b) (by omega)
  have tri : ∃ p q r : Bool, (a * d < c * b) = (p = true) ∧ (c * b < a * d) = (q = true) ∧ (a * d ≤ c * b) = (r = true) ∧ ((p = true ∧ q = false ∧ r = true) ∨ (p = false ∧ q = true ∧ r = false) ∨ (p = false ∧ q = false ∧ r = true)) := by
    refine ⟨decide (a * d < c * b), decide (c * b < a * d), decide (a * d ≤ c * b), by simp, by simp, by simp, ?_⟩
    simp only [decide_eq_true_eq, decide_eq_false_iff_not]
    omega
  obtain ⟨p1, p2, p3, e1, e2, e3, hp⟩ := tri
  simp only [e1, e2] at eo
  rw [e1] at el
  rw [e2] at el2
  rw [e3] at ee
  unfold ir_law_k00_k21
  simp [mad, mcb]
  unfold ir_law_k00_k20
  rcases hp with ⟨rfl, rfl, rfl⟩ | ⟨rfl, rfl, rfl⟩ | ⟨rfl, rfl, rfl⟩
  all_goals
    simp only [if_true, if_false, Bool.false_eq_true] at eo el el2 ee e1 e2 e3
    simp [G, sx, sy, eo, el, ee, e1, e2, e3]
    unfold ir_law_k00_k19
    simp [G, sx8, rt_ab, rt_neg]
    unfold ir_law_k00_k18
    simp [G, e1, e2]
    refine fracs_2 sx sy ?_
    simp [least, el2]
    unfold ir_law_k00_k17
    simp [G, e1, e2]
    refine fracs_2t sx sy ?_
    simp [most, el]
    unfold ir_law_k00_k16
    simp [G, sx8]
    unfold ir_law_k00_k15
    simp [G, sx8, mb, f1, f2]
    rw [f3]
    by_cases hw : (Rat.divInt a b).floor * b = a
    · simp [hw]
      exact rest _ _ _
    · simp [hw]
      exact rest _ _ _
theorem turn_1 (G : G0 Γ) (ha : -100 ≤ a) (ha' : a < 100) (hb : 1 ≤ b) (hb' : b ≤ 60) (hc : -100 ≤ c) (hc' : c < 100) (hd : 1 ≤ d) (hd' : d ≤ 60)
    (rest : ∀ a7 a8 a11 a12 a13 a14 a15 a16 a17 : Option D, dSs Γ xm ir_law_k00_k14 W Dn [s, some (.ref p), a2, some (.int a), some (.int b), some (.int c), some (.int d), a7, a8, some (rt (Rat.divInt a b)), some (rt (Rat.divInt c d)), a11, a12, a13, a14, a15, a16, a17, a18, a19, a20, a21, a22, a23, a24, a25] M) :
    dSs Γ xm ir_law_k00_k27 W Dn [s, some (.ref p), a2, some (.int a), some (.int b), some (.int c), some (.int d), a7, a8, a9, a10, a11, a12, a13, a14, a15, a16, a17, a18, a19, a20, a21, a22, a23, a24, a25] M := by
  have b0 : b ≠ 0 := by omega
  have d0 : d ≠ 0 := by omega
  have nd0 : -d ≠ 0 := by omega
  have sm : ∀ x : Int, -1000000 ≤ x → x ≤ 1000000 → x.natAbs < 2 ^ 9000 := fun x h1 h2 => by
    have : x.natAbs < 2 ^ 20 := by omega
    exact pow_mono this (by decide)
  have bs := sm b (by omega) (by omega)
  have dS := sm d (by omega) (by omega)
  have nds := sm (-d) (by omega) (by omega)
  have pbnd : ∀ x y : Int, -100 ≤ x → x ≤ 100 → -100 ≤ y → y ≤ 100 → -10000 ≤ x * y ∧ x * y ≤ 10000 := fun x y h1 h2 h3 h4 => by
    have := Int.mul_le_mul (a := x.natAbs) (b := y.natAbs) (c := 100) (d := 100) (by omega) (by omega) (by omega) (by omega)
    rw [← Int.natCast_mul, ← Int.natAbs_mul] at this
    omega
  have bd0 : b * d ≠ 0 := Int.mul_ne_zero b0 d0
  have bds : (b * d).natAbs < 2 ^ 9000 := by
    have := pbnd b d (by omega) (by omega) (by omega) (by omega)
    exact sm _ (by omega) (by omega)
  have bcs : (b * c).natAbs < 2 ^ 9000 := by
    have := pbnd b c (by omega) (by omega) (by omega) (by omega)
    exact sm _ (by omega) (by omega)
  have sz : ∀ x y : Int, y ≠ 0 → -100 ≤ x → x ≤ 100 → -100 ≤ y → y ≤ 100 → Sz 4000 (Rat.divInt x y) := fun x y h0 h1 h2 h3 h4 => by
    have : Sz 20 (Rat.divInt x y) := divInt_sz h0 (by omega) (by omega)
    exact this.mono (by decide)
  have sx := sz a b b0 (by omega) (by omega) (by omega) (by omega)
  have sy := sz c d d0 (by omega) (by omega) (by omega) (by omega)
  have mo : ∀ x y : Int, -100 ≤ x → x ≤ 100 → IntMulOk x y := fun x y h1 h2 => .of_left (intBits_le_64 (by omega) (by omega))
  have mad := mo a d (by omega) (by omega)
  have mcb := mo c b (by omega) (by omega)
  have mbd := mo b d (by omega) (by omega)
  have mac := mo a c (by omega) (by omega)
  have mbc := mo b c (by omega) (by omega)
  unfold ir_law_k00_k27
  simp [G, fraction_s b0 bs, fraction_s nd0 nds]
  unfold ir_law_k00_k26
  simp [G, b0, d0, bs, dS, fraction_s (show (1 : Int) ≠ 0 by decide) (sm 1 (by decide) (by decide))]
  refine ⟨?_, ?_, ?_⟩
  · rw [Rat.divInt_neg']
  · rw [int_div]; rfl
  unfold ir_law_k00_k25
  simp [G, b0, d0, bs, dS]
  unfold ir_law_k00_k24
  simp [mad, mcb, mbd, mac]
  unfold ir_law_k00_k23
  simp
  intro _
  unfold ir_law_k00_b1
  simp [for_cons, G, sx, sy, bd0, bds, Rat.divInt_add_divInt a c b0 d0, Rat.divInt_sub_divInt a c b0 d0, Rat.divInt_mul_divInt]
  unfold ir_law_k00_k22
  have k22 : ∀ (X : Prop), X → (if c = 0 then X else X) := fun X h => by split <;> exact h
  simp [G, sx, rt_01, mad, mbc]
  split
  · exact turn_2 G ha ha' hb hb' hc hc' hd hd' (rest _ _ _ _ _ _)
  · rename_i c0
    have y0 : Rat.divInt c d ≠ 0 := fun h => c0 (by
      have := congrArg Rat.num h
      rw [← Rat.zero_divInt 1, Rat.divInt_eq_divInt_iff d0 (by decide)] at h
      omega)
    simp [over_s y0, sx, sy, b0, c0, bcs]
    refine ⟨?_, turn_2 G ha ha' hb hb' hc hc' hd hd' (rest _ _ _ _ _ _)⟩
    rw [Rat.div_def, Rat.inv_divInt, Rat.divInt_mul_divInt]
end
end U
end
section
set_option maxHeartbeats 4000000
namespace U
open PySem PySem.Spec PyProof.Rows L2 DL
section
variable {Γ : List DSp} {xm : Nat → Nat → Option Bool} {ds : List D} {M : Mem} {Q : QD} {E : XD} {W : WD} {Dn : En}
variable {s a2 a3 a4 a5 a6 a7 a8 a9 a10 a11 a12 a13 a14 a15 a16 a17 a18 a19 a20 a21 a22 a23 a24 a25 : Option D} {p : Addr} {o : MO} {a b c d : Int}
theorem Dg.uniq {b n k k' : Nat} (hb : 2 ≤ b) (h : Dg b n k) (h' : Dg b n k') : k = k' := by
  have key : ∀ k k', Dg b n k → Dg b n k' → ¬ k < k' := fun k k' h h' hl => by
    rcases h'.2 with e | e
    · omega
    · have : b ^ k ≤ b ^ (k' - 1) := Nat.pow_le_pow_right (by omega) (by omega)
      have := h.1
      omega
  have h1 := key k k' h h'
  have h2 := key k' k h' h
  omega
theorem pw_nn {b m : Int} (hm : 0 ≤ m) : rt (pw b m) = .tup [.int (b ^ m.toNat), .int 1] := by
  unfold pw; rw [if_pos hm]; rfl
theorem pw_np {b m : Int} (hb : 0 < b) (hm : 0 ≤ m) : rt (pw b (-m)) = .tup [.int 1, .int (b ^ m.toNat)] := by
  have hp : 0 < b ^ m.toNat := Int.pow_pos hb
  obtain ⟨n, hn⟩ := Int.eq_ofNat_of_zero_le (Int.le_of_lt hp)
  unfold pw
  split
  · have : m = 0 := by omega
    subst this
    simp
    rfl
  · rw [Int.neg_neg, hn, rt_lit (by omega) (by simp)]
theorem sq_uniq {r t : Int} (hr : 0 ≤ r) (ht : 0 ≤ t) (h1 : t * t ≤ r * r) (h2 : r * r < (t + 1) * (t + 1)) : t = r := by
  have k1 : t ≤ r := by
    rcases (by omega : r < t ∨ t ≤ r) with h | h
    · have h3 : (r + 1) * (r + 1) ≤ t * t := Int.mul_le_mul h h (by omega) ht
      have h4 : (r + 1) * (r + 1) = r * r + 2 * r + 1 := by grind
      omega
    · exact h
  have k2 : r < t + 1 := by
    rcases (by omega : r < t + 1 ∨ t + 1 ≤ r) with h | h
    · exact h
    · have : (t + 1) * (t + 1) ≤ r * r := Int.mul_le_mul h h (by omega) (by omega)
      omega
  omega
theorem digits_s {n b : Int} (h0 : 0 ≤ n) (h1 : n.natAbs < 2 ^ 8000) (h2 : 2 ≤ b) (h3 : b.natAbs < 2 ^ 8000) {t : Nat} (ht : Dg b.toNat n.toNat t) (h : ∀ M', M.le M' → Q (.int t) M') : φ_digits_in [.int n, .int b] M Q E :=
  ⟨h0, h1, h2, h3, fun k M' hk hl => by rw [Dg.uniq (by omega) hk ht]; exact h M' hl⟩
theorem tn8 {x : Int} {n : Nat} (hn : n ≤ 8000) (h : x.natAbs < 2 ^ n) : x.natAbs < 2 ^ 8000 := pow_mono h hn
theorem turn_5 (G : G0 Γ) {base n tt : Int} (hb : 1 ≤ b) (hb' : b ≤ 60) (hb2 : 2 ≤ base) (hb3 : base ≤ 16) (hn : 0 ≤ n) (hn' : n < 10000000000) (ho : DrS o) (hp : M p = some o)
    (rest : ∀ (δ' : Ev) (o' : MO) (M' : Mem), (∃ r : List (Option D), δ' = s :: some (.ref p) :: r ∧ r.length = 24) → DrS o' → M' p = some o' → Dn.nx δ' M') :
    dSs Γ xm ir_law_k00_k7 W Dn [s, some (.ref p), a2, some (.int a), some (.int b), a5, a6, a7, a8, a9, a10, a11, a12, a13, a14, a15, a16, a17, some (.int base), a19, a20, a21, some (.int n), some (.int tt), a24, a25] M := by
  obtain ⟨n, rfl⟩ := Int.eq_ofNat_of_zero_le hn
  obtain ⟨base, rfl⟩ := Int.eq_ofNat_of_zero_le (show 0 ≤ base by omega)
  have b0 : b ≠ 0 := by omega
  have bs : b.natAbs < 2 ^ 9000 := by
    have : b.natAbs < 2 ^ 20 := by omega
    exact pow_mono this (by decide)
  have dv : ∀ x : Int, CDv x base := fun x => cdv (by omega) (by
    have : (base : Int).natAbs < 2 ^ 20 := by omega
    exact pow_mono this (by decide))
  have dw : CDv b (Rat.divInt a b).den := cdv (den_ne _) (by
    have : Sz 9000 (Rat.divInt a b) ∨ True := .inr trivial
    have h1 : ((Rat.divInt a b).den : Int).natAbs ≤ b.natAbs := by
      rw [Rat.den_divInt, if_neg b0]
      simp
      exact Nat.div_le_self _ _
    omega)
  unfold ir_law_k00_k7
  simp
  unfold ir_law_k00_k6
  simp only [ss_cons, s_whl]
  refine whl_inv (fun k δ M' => ∃ l t : Nat, k = l ∧ l = n / base ^ t ∧ (t = 0 ∨ base ^ (t - 1) ≤ n) ∧ δ = [s, some (.ref p), a2, some (.int a), some (.int b), a5, a6, a7, a8, a9, a10, a11, a12, a13, a14, some (.int l), a16, a17, some (.int base), a19, a20, a21, some (.int n), some (.int tt), some (.int t), a25] ∧ M' = M) n ⟨n, 0, rfl, by simp, .inl rfl, rfl, rfl⟩ ?_
  rintro k δ M' ⟨l, t, rfl, hl, ht, rfl, rfl⟩ nx hnx
  unfold ir_law_k00_c3
  simp only [t_cmp, e_var, e_cst, List.getElem?_cons_zero, List.getElem?_cons_succ, opt_s, cmp_gt, chn_bl]
  by_cases h0 : k = 0
  · subst h0
    simp only [Int.natCast_zero, Int.lt_irrefl, decide_false]
    unfold ir_law_k00_k5
    have hlt : n < base ^ t := by
      rcases Nat.lt_or_ge n (base ^ t) with q | q
      · exact q
      · have := (Nat.le_div_iff_mul_le (Nat.pow_pos (by omega) : 0 < base ^ t)).mpr (by omega : 1 * base ^ t ≤ n)
        omega
    have dg : Dg (base : Int).toNat (n : Int).toNat t := ⟨by simpa using hlt, by simpa using ht⟩
    simp [G]
    refine digits_s (by omega) (tn8 (n := 40) (by decide) (by omega)) (by omega) (tn8 (n := 40) (by decide) (by omega)) dg fun M2 hM => ?_
    simp [G, b0, bs, dw, gcd_back (a := a) (show 0 < b by omega)]
    exact ⟨by omega, rest _ o M2 ⟨_, rfl, rfl⟩ ho (hM _ _ hp)⟩
  · have : 0 < k := by omega
    simp [this]
    unfold ir_law_k00_b4
    simp [dv]
    refine hnx _ _ _ ?_ ⟨k / base, t + 1, rfl, ?_, .inr ?_, ?_, rfl⟩
    · exact Nat.div_lt_self this (by omega)
    · rw [hl, Nat.div_div_eq_div_mul, Nat.pow_succ]
    · simp
      have h2 : 1 ≤ n / base ^ t := by omega
      have := (Nat.le_div_iff_mul_le (Nat.pow_pos (by omega) : 0 < base ^ t)).mp h2
      omega
    · rw [fdiv_nat]
      simp
theorem turn_4 (G : G0 Γ) {base n : Int} (hb : 1 ≤ b) (hb' : b ≤ 60) (hb2 : 2 ≤ base) (hb3 : base ≤ 16) (hn : 0 ≤ n) (hn' : n < 10000000000) (ho : DrS o) (hp : M p = some o)
    (rest : ∀ (δ' : Ev) (o' : MO) (M' : Mem), (∃ r : List (Option D), δ' = s :: some (.ref p) :: r ∧ r.length = 24) → DrS o' → M' p = some o' → Dn.nx δ' M') :
    dSs Γ xm ir_law_k00_k9 W Dn [s, some (.ref p), a2, some (.int a), some (.int b), a5, a6, a7, a8, a9, a10, a11, a12, a13, a14, a15, a16, a17, some (.int base), a19, a20, a21, some (.int n), a23, a24, a25] M := by
  unfold ir_law_k00_k9
  simp [G]
  refine ⟨hn, tn8 (n := 40) (by decide) (by omega), fun r h0 h1 h2 => ?_⟩
  have hr : r ≤ 100000 := by
    rcases (by omega : r ≤ 100000 ∨ 100000 < r) with h | h
    · exact h
    · have : 100000 * 100000 ≤ r * r := Int.mul_le_mul (by omega) (by omega) (by omega) (by omega)
      omega
  have m1 : IntMulOk r r := .of_left (intBits_le_64 (by omega) (by omega))
  have m2 : IntMulOk (r + 1) (r + 1) := .of_left (intBits_le_64 (by omega) (by omega))
  unfold ir_law_k00_k8
  simp [G, m1, m2, h1, h2]
  have hrr := Int.mul_nonneg h0 h0
  refine ⟨hrr, tn8 (n := 40) (by decide) (by omega), fun r' g0 g1 g2 => ⟨sq_uniq h0 g0 g1 g2, ?_⟩⟩
  exact turn_5 G hb hb' hb2 hb3 hn hn' ho hp rest
theorem turn_3 (G : G0 Γ) (hb : 1 ≤ b) (hb' : b ≤ 60) (ho : DrS o) (hp : M p = some o)
    (rest : ∀ (δ' : Ev) (o' : MO) (M' : Mem), (∃ r : List (Option D), δ' = s :: some (.ref p) :: r ∧ r.length = 24) → DrS o' → M' p = some o' → Dn.nx δ' M') :
    dSs Γ xm ir_law_k00_k14 W Dn [s, some (.ref p), a2, some (.int a), some (.int b), a5, a6, a7, a8, a9, a10, a11, a12, a13, a14, a15, a16, a17, a18, a19, a20, a21, a22, a23, a24, a25] M := by
  obtain ⟨M0, rfl⟩ : ∃ M0 : Mem, M = M0.put p o := ⟨M, (Mem.put_self hp).symm⟩
  have sm : ∀ x : Int, 0 ≤ x → x ≤ 1000000 → x.natAbs < 2 ^ 8000 := fun x h1 h2 => tn8 (n := 40) (by decide) (by omega)
  unfold ir_law_k00_k14
  simp [G]
  refine draw_s (by decide) (sm _ (by decide) (by decide)) ho fun v1 o1 h1 h1' ho1 => ?_
  simp
  refine draw_s (by decide) (sm _ (by decide) (by decide)) ho1 fun m o2 h2 h2' ho2 => ?_
  generalize hbase : 2 + v1 = base
  obtain ⟨m, rfl⟩ := Int.eq_ofNat_of_zero_le h2
  unfold ir_law_k00_k13
  simp
  unfold ir_law_k00_k12
  simp
  refine ⟨⟨by omega, by omega⟩, ?_⟩
  have pb : ∀ j : Nat, j ≤ 8 → IntMulOk (base ^ j) base := fun j hj => .of_right (intBits_le_64 (by omega) (by omega))
  refine for_inv (fun ds δ M' => ∃ (j : Nat) (a21 : Option D), j + ds.length = m ∧ δ = [s, some (.ref p), a2, some (.int a), some (.int b), a5, a6, a7, a8, a9, a10, a11, a12, a13, a14, a15, a16, a17, some (.int base), some (.int m), some (.int (base ^ j)), a21, a22, a23, a24, a25] ∧ M' = M0.put p o2) ?_ ?_ _ _ _ ⟨0, a21, by simp [rngD], by simp, rfl⟩
  · rintro d ds δ M' ⟨j, x21, hj, rfl, rfl⟩
    refine ⟨trivial, fun nx hnx => ?_⟩
    simp at hj
    unfold ir_law_k00_b2
    simp [pb j (by omega)]
    exact hnx _ _ ⟨j + 1, some d, by omega, by rw [Int.pow_succ], rfl⟩
  · rintro δ M' ⟨j, x21, hj, rfl, rfl⟩
    simp at hj
    subst hj
    refine ⟨trivial, ?_⟩
    have ro : RsOk base j := ⟨by omega, 5, by omega, by omega⟩
    have ro2 : RsOk base (if 0 ≤ (j : Int) then (j : Int) else -j) := by rw [if_pos (by omega)]; exact ro
    have ro3 : RsOk base (if 0 ≤ -(j : Int) then -(j : Int) else j) := by
      split
      · have : j = 0 := by omega
        subst this; simpa using ro
      · exact ro
    have bp : 0 < base := by omega
    unfold ir_law_k00_k11
    simp [G, ro, ro2, ro3, bp, pw_nn (b := base) (m := j) (by omega), pw_np (b := base) (m := j) bp (by omega)]
    refine ⟨by simpa using ro3, ?_⟩
    unfold ir_law_k00_k10
    simp [G]
    refine draw_s (by decide) (sm _ (by decide) (by decide)) ho2 fun v3 o3 h3 h3' ho3 => ?_
    try simp
    refine draw_s (by decide) (sm _ (by decide) (by decide)) ho3 fun v4 o4 h4 h4' ho4 => ?_
    have m5 : IntMulOk v3 v4 := .of_left (intBits_le_64 (by omega) (by omega))
    simp [m5]
    have q1 : 0 ≤ v3 * v4 := Int.mul_nonneg h3 h4
    have q2 : v3 * v4 ≤ 99999 * 99999 := Int.mul_le_mul (by omega) (by omega) h4 (by omega)
    exact turn_4 G hb hb' (by omega) (by omega) q1 (by omega) ho4 Mem.put_same rest
end
end U
end
namespace U
open PySem PySem.Spec PyProof.Rows L2 DL
def top (i : Nat) : Stmt := PySem.Challenge.pw_roundonce_k00_whole_fractions.main.body.getD i (.Pass ⟨0, 0, 0, 0⟩)
def fns : List (Str × Nat) := [("is_whole", 1), ("shared", 2), ("fraction", 2), ("fraction", 1), ("is_fraction", 1), ("plus", 2), ("minus", 2), ("times", 2), ("over", 2), ("against", 1), ("sized", 1), ("order", 2), ("below", 2), ("at_most", 2), ("least_of", 1), ("most_of", 1), ("floor", 1), ("ceiling", 1), ("raised", 2), ("power", 2), ("root_below", 1), ("digits_in", 2), ("_law_draws", 1), ("_law_draw", 2), ("_law_same", 2), ("_law_low", 2), ("_law_bad", 3)]
def pin : PI := { fns := fns, free := ["isinstance", "int", "bool", "abs", "tuple", "list", "str", "len", "range"], glb := [], exs := ["BadPlan", "BadPlan", "BadPlan", "BadPlan"] }
abbrev st_is_whole : Stmt := top 4
theorem tr_is_whole : trSs 60 (pin.if_ ["value"] []) (defScope st_is_whole) (defBody st_is_whole) = some ir_is_whole := by kernel_rfl
theorem sc_is_whole : FnScope ["value"] ["value"] (defScope st_is_whole) := ⟨rfl, rfl, rfl, by decide +kernel, rfl, by decide +kernel, by decide +kernel⟩
abbrev st_shared : Stmt := top 5
theorem tr_shared : trSs 60 (pin.if_ ["first", "other"] []) (defScope st_shared) (defBody st_shared) = some ir_shared := by kernel_rfl
theorem sc_shared : FnScope ["first", "other"] ["first", "other"] (defScope st_shared) := ⟨rfl, rfl, rfl, by decide +kernel, rfl, by decide +kernel, by decide +kernel⟩
abbrev st_fraction : Stmt := top 6
theorem tr_fraction : trSs 60 (pin.if_ ["above", "below", "by"] []) (defScope st_fraction) (defBody st_fraction) = some ir_fraction := by kernel_rfl
theorem sc_fraction : FnScope ["above", "below", "by"] ["above", "below"] (defScope st_fraction) := ⟨rfl, rfl, rfl, by decide +kernel, rfl, by decide +kernel, by decide +kernel⟩
abbrev st_is_fraction : Stmt := top 7
theorem tr_is_fraction : trSs 60 (pin.if_ ["value"] []) (defScope st_is_fraction) (defBody st_is_fraction) = some ir_is_fraction := by kernel_rfl
theorem sc_is_fraction : FnScope ["value"] ["value"] (defScope st_is_fraction) := ⟨rfl, rfl, rfl, by decide +kernel, rfl, by decide +kernel, by decide +kernel⟩
abbrev st_plus : Stmt := top 8
theorem tr_plus : trSs 60 (pin.if_ ["one", "two"] []) (defScope st_plus) (defBody st_plus) = some ir_plus := by kernel_rfl
theorem sc_plus : FnScope ["one", "two"] ["one", "two"] (defScope st_plus) := ⟨rfl, rfl, rfl, by decide +kernel, rfl, by decide +kernel, by decide +kernel⟩
abbrev st_minus : Stmt := top 9
theorem tr_minus : trSs 60 (pin.if_ ["one", "two"] []) (defScope st_minus) (defBody st_minus) = some ir_minus := by kernel_rfl
theorem sc_minus : FnScope ["one", "two"] ["one", "two"] (defScope st_minus) := ⟨rfl, rfl, rfl, by decide +kernel, rfl, by decide +kernel, by decide +kernel⟩
abbrev st_times : Stmt := top 10
theorem tr_times : trSs 60 (pin.if_ ["one", "two"] []) (defScope st_times) (defBody st_times) = some ir_times := by kernel_rfl
theorem sc_times : FnScope ["one", "two"] ["one", "two"] (defScope st_times) := ⟨rfl, rfl, rfl, by decide +kernel, rfl, by decide +kernel, by decide +kernel⟩
abbrev st_over : Stmt := top 11
theorem tr_over : trSs 60 (pin.if_ ["one", "two"] []) (defScope st_over) (defBody st_over) = some ir_over := by kernel_rfl
theorem sc_over : FnScope ["one", "two"] ["one", "two"] (defScope st_over) := ⟨rfl, rfl, rfl, by decide +kernel, rfl, by decide +kernel, by decide +kernel⟩
abbrev st_against : Stmt := top 12
theorem tr_against : trSs 60 (pin.if_ ["one"] []) (defScope st_against) (defBody st_against) = some ir_against := by kernel_rfl
theorem sc_against : FnScope ["one"] ["one"] (defScope st_against) := ⟨rfl, rfl, rfl, by decide +kernel, rfl, by decide +kernel, by decide +kernel⟩
abbrev st_sized : Stmt := top 13
theorem tr_sized : trSs 60 (pin.if_ ["one"] []) (defScope st_sized) (defBody st_sized) = some ir_sized := by kernel_rfl
theorem sc_sized : FnScope ["one"] ["one"] (defScope st_sized) := ⟨rfl, rfl, rfl, by decide +kernel, rfl, by decide +kernel, by decide +kernel⟩
abbrev st_order : Stmt := top 14
theorem tr_order : trSs 60 (pin.if_ ["one", "two", "left", "right"] []) (defScope st_order) (defBody st_order) = some ir_order := by kernel_rfl
theorem sc_order : FnScope ["one", "two", "left", "right"] ["one", "two"] (defScope st_order) := ⟨rfl, rfl, rfl, by decide +kernel, rfl, by decide +kernel, by decide +kernel⟩
abbrev st_below : Stmt := top 15
theorem tr_below : trSs 60 (pin.if_ ["one", "two"] []) (defScope st_below) (defBody st_below) = some ir_below := by kernel_rfl
theorem sc_below : FnScope ["one", "two"] ["one", "two"] (defScope st_below) := ⟨rfl, rfl, rfl, by decide +kernel, rfl, by decide +kernel, by decide +kernel⟩
abbrev st_at_most : Stmt := top 16
theorem tr_at_most : trSs 60 (pin.if_ ["one", "two"] []) (defScope st_at_most) (defBody st_at_most) = some ir_at_most := by kernel_rfl
theorem sc_at_most : FnScope ["one", "two"] ["one", "two"] (defScope st_at_most) := ⟨rfl, rfl, rfl, by decide +kernel, rfl, by decide +kernel, by decide +kernel⟩
abbrev st_least_of : Stmt := top 17
theorem tr_least_of : trSs 60 (pin.if_ ["rows", "found", "one"] []) (defScope st_least_of) (defBody st_least_of) = some ir_least_of := by kernel_rfl
theorem sc_least_of : FnScope ["rows", "found", "one"] ["rows"] (defScope st_least_of) := ⟨rfl, rfl, rfl, by decide +kernel, rfl, by decide +kernel, by decide +kernel⟩
abbrev st_most_of : Stmt := top 18
theorem tr_most_of : trSs 60 (pin.if_ ["rows", "one"] []) (defScope st_most_of) (defBody st_most_of) = some ir_most_of := by kernel_rfl
theorem sc_most_of : FnScope ["rows", "one"] ["rows"] (defScope st_most_of) := ⟨rfl, rfl, rfl, by decide +kernel, rfl, by decide +kernel, by decide +kernel⟩
abbrev st_floor : Stmt := top 19
theorem tr_floor : trSs 60 (pin.if_ ["one"] []) (defScope st_floor) (defBody st_floor) = some ir_floor := by kernel_rfl
theorem sc_floor : FnScope ["one"] ["one"] (defScope st_floor) := ⟨rfl, rfl, rfl, by decide +kernel, rfl, by decide +kernel, by decide +kernel⟩
abbrev st_ceiling : Stmt := top 20
theorem tr_ceiling : trSs 60 (pin.if_ ["one"] []) (defScope st_ceiling) (defBody st_ceiling) = some ir_ceiling := by kernel_rfl
theorem sc_ceiling : FnScope ["one"] ["one"] (defScope st_ceiling) := ⟨rfl, rfl, rfl, by decide +kernel, rfl, by decide +kernel, by decide +kernel⟩
abbrev st_power : Stmt := top 21
theorem tr_power : trSs 60 (pin.if_ ["base", "exponent"] []) (defScope st_power) (defBody st_power) = some ir_power := by kernel_rfl
theorem sc_power : FnScope ["base", "exponent"] ["base", "exponent"] (defScope st_power) := ⟨rfl, rfl, rfl, by decide +kernel, rfl, by decide +kernel, by decide +kernel⟩
abbrev st_raised : Stmt := top 22
theorem tr_raised : trSs 60 (pin.if_ ["base", "exponent", "found", "here"] []) (defScope st_raised) (defBody st_raised) = some ir_raised := by kernel_rfl
theorem sc_raised : FnScope ["base", "exponent", "found", "here"] ["base", "exponent"] (defScope st_raised) := ⟨rfl, rfl, rfl, by decide +kernel, rfl, by decide +kernel, by decide +kernel⟩
abbrev st_root_below : Stmt := top 23
theorem tr_root_below : trSs 60 (pin.if_ ["number", "here", "there"] []) (defScope st_root_below) (defBody st_root_below) = some ir_root_below := by kernel_rfl
theorem sc_root_below : FnScope ["number", "here", "there"] ["number"] (defScope st_root_below) := ⟨rfl, rfl, rfl, by decide +kernel, rfl, by decide +kernel, by decide +kernel⟩
abbrev st_digits_in : Stmt := top 24
theorem tr_digits_in : trSs 60 (pin.if_ ["number", "base", "rows", "found", "at"] [(76, 11)]) (defScope st_digits_in) (defBody st_digits_in) = some ir_digits_in := by kernel_rfl
theorem sc_digits_in : FnScope ["number", "base", "rows", "found", "at"] ["number", "base"] (defScope st_digits_in) := ⟨rfl, rfl, rfl, by decide +kernel, rfl, by decide +kernel, by decide +kernel⟩
abbrev st_law_draws : Stmt := top 26
theorem tr_law_draws : trSs 60 (pin.if_ ["script"] [(87, 11)]) (defScope st_law_draws) (defBody st_law_draws) = some ir_law_draws := by kernel_rfl
theorem sc_law_draws : FnScope ["script"] ["script"] (defScope st_law_draws) := ⟨rfl, rfl, rfl, by decide +kernel, rfl, by decide +kernel, by decide +kernel⟩
abbrev st_law_draw : Stmt := top 27
theorem tr_law_draw : trSs 60 (pin.if_ ["draws", "limit", "cell", "value"] []) (defScope st_law_draw) (defBody st_law_draw) = some ir_law_draw := by kernel_rfl
theorem sc_law_draw : FnScope ["draws", "limit", "cell", "value"] ["draws", "limit"] (defScope st_law_draw) := ⟨rfl, rfl, rfl, by decide +kernel, rfl, by decide +kernel, by decide +kernel⟩
abbrev st_law_same : Stmt := top 28
theorem tr_law_same : trSs 60 (pin.if_ ["actual", "expected", "k"] []) (defScope st_law_same) (defBody st_law_same) = some ir_law_same := by kernel_rfl
theorem sc_law_same : FnScope ["actual", "expected", "k"] ["actual", "expected"] (defScope st_law_same) := ⟨rfl, rfl, rfl, by decide +kernel, rfl, by decide +kernel, by decide +kernel⟩
abbrev st_law_low : Stmt := top 29
theorem tr_law_low : trSs 60 (pin.if_ ["above", "under", "one", "two"] []) (defScope st_law_low) (defBody st_law_low) = some ir_law_low := by kernel_rfl
theorem sc_law_low : FnScope ["above", "under", "one", "two"] ["above", "under"] (defScope st_law_low) := ⟨rfl, rfl, rfl, by decide +kernel, rfl, by decide +kernel, by decide +kernel⟩
abbrev st_law_bad : Stmt := top 30
theorem tr_law_bad : trSs 60 (pin.if_ ["call", "one", "two"] []) (defScope st_law_bad) (defBody st_law_bad) = some ir_law_bad := by kernel_rfl
theorem sc_law_bad : FnScope ["call", "one", "two"] ["call", "one", "two"] (defScope st_law_bad) := ⟨rfl, rfl, rfl, by decide +kernel, rfl, by decide +kernel, by decide +kernel⟩
abbrev st_law_k00 : Stmt := top 31
theorem tr_law_k00 : trSs 60 (pin.if_ ["script", "draws", "turn", "a", "b", "c", "d", "one", "two", "x", "y", "rows", "call", "top", "under", "left", "right", "whole", "base", "many", "made", "k", "number", "root", "digits", "bad"] []) (defScope st_law_k00) (defBody st_law_k00) = some ir_law_k00 := by kernel_rfl
theorem sc_law_k00 : FnScope ["script", "draws", "turn", "a", "b", "c", "d", "one", "two", "x", "y", "rows", "call", "top", "under", "left", "right", "whole", "base", "many", "made", "k", "number", "root", "digits", "bad"] ["script"] (defScope st_law_k00) := ⟨rfl, rfl, rfl, by decide +kernel, rfl, by decide +kernel, by decide +kernel⟩
end U
section
set_option maxHeartbeats 4000000
namespace U
open PySem PySem.Spec PyProof.Rows L2 DL
section
variable {Γ : List DSp} {xm : Nat → Nat → Option Bool} {ds : List D} {M : Mem} {Q : QD} {E : XD} {W : WD} {Dn : En}
variable {s : Option D} {p : Addr} {o : MO}
theorem len24 {r : List (Option D)} (h : r.length = 24) : ∃ a0 a1 a2 a3 a4 a5 a6 a7 a8 a9 a10 a11 a12 a13 a14 a15 a16 a17 a18 a19 a20 a21 a22 a23, r = [a0, a1, a2, a3, a4, a5, a6, a7, a8, a9, a10, a11, a12, a13, a14, a15, a16, a17, a18, a19, a20, a21, a22, a23] := by
  match r, h with
  | [a0, a1, a2, a3, a4, a5, a6, a7, a8, a9, a10, a11, a12, a13, a14, a15, a16, a17, a18, a19, a20, a21, a22, a23], _ => exact ⟨a0, a1, a2, a3, a4, a5, a6, a7, a8, a9, a10, a11, a12, a13, a14, a15, a16, a17, a18, a19, a20, a21, a22, a23, rfl⟩
theorem turn_0 (G : G0 Γ) {r : List (Option D)} (hr : r.length = 24) (ho : DrS o) (hp : M p = some o)
    (rest : ∀ (δ' : Ev) (o' : MO) (M' : Mem), (∃ r : List (Option D), δ' = s :: some (.ref p) :: r ∧ r.length = 24) → DrS o' → M' p = some o' → Dn.nx δ' M') :
    dSs Γ xm ir_law_k00_b28 W Dn (s :: some (.ref p) :: r) M := by
  obtain ⟨a0, a1, a2, a3, a4, a5, a6, a7, a8, a9, a10, a11, a12, a13, a14, a15, a16, a17, a18, a19, a20, a21, a22, a23, rfl⟩ := len24 hr
  obtain ⟨M0, rfl⟩ : ∃ M0 : Mem, M = M0.put p o := ⟨M, (Mem.put_self hp).symm⟩
  have sm : ∀ x : Int, 0 ≤ x → x ≤ 1000000 → x.natAbs < 2 ^ 8000 := fun x h1 h2 => tn8 (n := 40) (by decide) (by omega)
  unfold ir_law_k00_b28
  simp [G]
  refine draw_s (by decide) (sm _ (by decide) (by decide)) ho fun v1 o1 h1 h1' ho1 => ?_
  try simp
  refine draw_s (by decide) (sm _ (by decide) (by decide)) ho1 fun v2 o2 h2 h2' ho2 => ?_
  try simp
  refine draw_s (by decide) (sm _ (by decide) (by decide)) ho2 fun v3 o3 h3 h3' ho3 => ?_
  try simp
  refine draw_s (by decide) (sm _ (by decide) (by decide)) ho3 fun v4 o4 h4 h4' ho4 => ?_
  simp
  refine turn_1 G (by omega) (by omega) (by omega) (by omega) (by omega) (by omega) (by omega) (by omega) ?_
  intro a7 a8 a11 a12 a13 a14 a15 a16 a17
  exact turn_3 G (by omega) (by omega) ho4 Mem.put_same rest
theorem last (G : G0 Γ) {r : List (Option D)} (hr : r.length = 24) (h : Q (.bl true) M) : dSs Γ xm ir_law_k00_k32 W (endS Q) (s :: some (.ref p) :: r) M := by
  obtain ⟨a0, a1, a2, a3, a4, a5, a6, a7, a8, a9, a10, a11, a12, a13, a14, a15, a16, a17, a18, a19, a20, a21, a22, a23, rfl⟩ := len24 hr
  unfold ir_law_k00_k32
  simp
  intro _
  unfold ir_law_k00_b29
  have gg : Int.gcd 2 4 = 2 := by decide
  have gg2 : Int.gcd 0 2 = 2 := by decide
  simp [for_cons, G, isFr, gg, gg2]
  unfold ir_law_k00_k31
  simp [G, isFr]
  unfold ir_law_k00_k30
  simp [G, badFr]
  exact ends_rt h
theorem b_law (G : G0 Γ) (h : DL.φ_law ds M Q E) : dSs Γ xm ir_law_k00 (endW E) (endS Q) (startD 26 ds) M := by
  obtain ⟨ns, _, rfl, h⟩ := h
  unfold ir_law_k00
  simp [G, startD, φ_law_draws]
  intro p hp
  unfold ir_law_k00_k33
  simp
  refine ⟨⟨by decide, by decide⟩, ?_⟩
  refine for_inv (fun ds δ M' => ∃ (o : MO) (r : List (Option D)), DrS o ∧ M' p = some o ∧ δ = some (.lst (ns.map .int)) :: some (.ref p) :: r ∧ r.length = 24) ?_ ?_ _ _ _ ⟨_, List.replicate 24 none, DrS.new ns, Mem.put_same, rfl, rfl⟩
  · rintro d ds δ M' ⟨o, r, ho, hM, rfl, hr⟩
    refine ⟨trivial, fun nx hnx => ?_⟩
    obtain ⟨a0, a1, a2, a3, a4, a5, a6, a7, a8, a9, a10, a11, a12, a13, a14, a15, a16, a17, a18, a19, a20, a21, a22, a23, rfl⟩ := len24 hr
    simp
    refine turn_0 G rfl ho hM ?_
    rintro δ' o' M2 ⟨r, rfl, hr⟩ ho' hM'
    exact hnx _ _ ⟨o', r, ho', hM', rfl, hr⟩
  · rintro δ M' ⟨o, r, ho, hM, rfl, hr⟩
    exact ⟨trivial, last G hr (h _)⟩
end
end U
end
section
set_option maxHeartbeats 0
namespace U
open PySem PySem.Spec PyProof.Rows L2 DL
def nms : List Str := ["law", "is_whole", "shared", "fraction", "is_fraction", "plus", "minus", "times", "over", "against", "sized", "order", "below", "at_most", "least_of", "most_of", "floor", "ceiling", "raised", "power", "root_below", "digits_in", "_law_draws", "_law_draw", "_law_same", "_law_low", "_law_bad"]
def xms : List (Nat × Nat × Bool) := [(0, 0, true)]
def dd (x : Str) (i : Nat) (dfl : List He.Dv := []) : He.DefD := ⟨(x, none), x, x, defArgs (top i), defBody (top i), defScope (top i), dfl, []⟩
def fn : List He.DefD := [dd "is_whole" 4, dd "shared" 5, dd "fraction" 6 [.int 1], dd "is_fraction" 7, dd "plus" 8, dd "minus" 9, dd "times" 10, dd "over" 11, dd "against" 12, dd "sized" 13, dd "order" 14, dd "below" 15, dd "at_most" 16, dd "least_of" 17, dd "most_of" 18, dd "floor" 19, dd "ceiling" 20, dd "power" 21, dd "raised" 22, dd "root_below" 23, dd "digits_in" 24, dd "_law_draws" 26, dd "_law_draw" 27, dd "_law_same" 28, dd "_law_low" 29, dd "_law_bad" 30, dd "law" 31]
abbrev fa : List He.Fa := faOf pin nms xms
theorem cal_same {P : Program} {w : World} {mg : Str → Option Value} {base : Heap} {T : Tx} {xm : Nat → Nat → Option Bool} {Γ : List DSp} {k : Nat} {f : Addr} {fd : FuncData} (Pk : Pok mg T pin xm) (G : GOk P w mg base T k Γ) (F : FunD T.K "_law_same" "_law_same" (defArgs st_law_same) (defBody st_law_same) (defScope st_law_same) [] [] f fd) (d n : Nat) (hn : k + d + 1 ≤ n)
    (hf : T.fA Γ.length = f := by rfl) (h24 : Γ.length = 24 := by rfl) : CalK P w mg base T (n + 1) f (φ_law_same d) := by
  have key : ∀ d, CalK P w mg base T (k + d + 1) f (φ_law_same d) := fun d => by
    induction d with
    | zero =>
      exact cal_D (x := "_law_same") (st := st_law_same) (mls := []) Pk G F sc_law_same tr_law_same (fun _ _ _ _ _ _ us hl => match us, hl with | [_, _], _ => rfl) (fun l M Q E h => by rcases l with _ | ⟨_, _ | ⟨_, _ | ⟨_, l⟩⟩⟩ <;> first | rfl | exact False.elim h) (fun ds M Q E h => b_law_same (fun k' e => by omega) h)
    | succ d ih =>
      have G2 : GOk P w mg base T (k + d + 1) (Γ ++ [φ_law_same d]) := (G.mono (Nat.le_add_right k d)).snoc (by rw [hf]; exact ih)
      exact cal_D (x := "_law_same") (st := st_law_same) (mls := []) Pk G2 F sc_law_same tr_law_same (fun _ _ _ _ _ _ us hl => match us, hl with | [_, _], _ => rfl) (fun l M Q E h => by rcases l with _ | ⟨_, _ | ⟨_, _ | ⟨_, l⟩⟩⟩ <;> first | rfl | exact False.elim h) (fun ds M Q E h => b_law_same (fun k' e => by
        have : d = k' := by omega
        subst this
        rw [List.getElem?_append_right (by omega), h24]; rfl) h)
  exact (key d).mono (by omega)
def Γ0 : List DSp := [φ_is_whole, φ_shared, φ_fraction, φ_fraction1, φ_is_fraction, φ_plus, φ_minus, φ_times, φ_over, φ_against, φ_sized, φ_order, φ_below, φ_at_most, φ_least_of, φ_most_of, φ_floor, φ_ceiling, φ_raised, φ_power, φ_root_below, φ_digits_in, φ_law_draws, φ_law_draw, (φ_law_same 4), φ_law_low, φ_law_bad]
section
variable {P : Program} {w : World} {K : PySem.W.Frag} {mg : Str → Option Value} {base : Heap}
theorem calls (Pk : Pok mg (txOf K pin []) pin (xmOf xms)) (c : He.SaysD fa fn K) : GOk P w mg base (txOf K pin []) 40 Γ0 := by
  have g0 : GOk P w mg base (txOf K pin []) 0 [] := .nil
  obtain ⟨fd0, F0⟩ := c.def_ 0 rfl
  have g1 : GOk P w mg base (txOf K pin []) 1 (Γ0.take 1) := g0.snoc (cal_D (x := "is_whole") (st := st_is_whole) (mls := []) Pk g0 F0 sc_is_whole tr_is_whole (fun _ _ _ _ _ _ us hl => match us, hl with | [_], _ => rfl) (fun l M Q E h => by first | (unfold φ_is_whole at h; split at h <;> first | rfl | exact False.elim h) | (rcases l with _ | ⟨_, _ | ⟨_, l⟩⟩ <;> first | rfl | exact False.elim h)) (fun ds M Q E h => b_is_whole h))
  obtain ⟨fd1, F1⟩ := c.def_ 1 rfl
  have g2 : GOk P w mg base (txOf K pin []) 2 (Γ0.take 2) := g1.snoc (cal_D (x := "shared") (st := st_shared) (mls := []) Pk g1 F1 sc_shared tr_shared (fun _ _ _ _ _ _ us hl => match us, hl with | [_, _], _ => rfl) (fun l M Q E h => by first | (unfold φ_shared at h; split at h <;> first | rfl | exact False.elim h) | (rcases l with _ | ⟨_, _ | ⟨_, _ | ⟨_, l⟩⟩⟩ <;> first | rfl | exact False.elim h)) (fun ds M Q E h => b_shared h))
  obtain ⟨fd2, F2⟩ := c.def_ 2 rfl
  have g3 : GOk P w mg base (txOf K pin []) 3 (Γ0.take 3) := g2.snoc (cal_DD (x := "fraction") (st := st_fraction) (mls := []) (dd := []) (φ0 := φ_fraction) 2 1 Pk g2 F2 sc_fraction tr_fraction (List.cons_ne_nil _ _) rfl (fun _ _ _ _ _ _ _ us its hu hi => match us, its, hu, hi with | [_, _], [_], _, _ => ⟨_, rfl, rfl⟩) (fun _ => .nil) (fun l M Q E h => by first | (unfold φ_fraction at h; split at h <;> first | rfl | exact False.elim h) | (rcases l with _ | ⟨_, _ | ⟨_, _ | ⟨_, l⟩⟩⟩ <;> first | rfl | exact False.elim h)) (fun l M Q E h => by rw [List.append_nil]; exact h) (fun ds M Q E h => b_fraction rfl rfl h))
  obtain ⟨fd3, F3⟩ := c.def_ 2 rfl
  have g4 : GOk P w mg base (txOf K pin []) 4 (Γ0.take 4) := g3.snoc (cal_DD (x := "fraction") (st := st_fraction) (mls := []) (dd := [.int 1]) (φ0 := φ_fraction) 1 0 Pk g3 F3 sc_fraction tr_fraction (List.cons_ne_nil _ _) rfl (fun _ _ _ _ _ _ _ us its hu hi => match us, its, hu, hi with | [_], [_], _, _ => ⟨_, rfl, rfl⟩) (fun _ => .cons (.int 1) .nil) (fun l M Q E h => by first | (unfold φ_fraction1 at h; split at h <;> first | rfl | exact False.elim h) | (rcases l with _ | ⟨_, _ | ⟨_, l⟩⟩ <;> first | rfl | exact False.elim h)) (fun l M Q E h => by rcases l with _ | ⟨_, _ | ⟨_, l⟩⟩ <;> first | exact h | exact False.elim h) (fun ds M Q E h => b_fraction rfl rfl h))
  obtain ⟨fd4, F4⟩ := c.def_ 3 rfl
  have g5 : GOk P w mg base (txOf K pin []) 5 (Γ0.take 5) := g4.snoc (cal_D (x := "is_fraction") (st := st_is_fraction) (mls := []) Pk g4 F4 sc_is_fraction tr_is_fraction (fun _ _ _ _ _ _ us hl => match us, hl with | [_], _ => rfl) (fun l M Q E h => by first | (unfold φ_is_fraction at h; split at h <;> first | rfl | exact False.elim h) | (rcases l with _ | ⟨_, _ | ⟨_, l⟩⟩ <;> first | rfl | exact False.elim h)) (fun ds M Q E h => b_is_fraction rfl rfl h))
  obtain ⟨fd5, F5⟩ := c.def_ 4 rfl
  have g6 : GOk P w mg base (txOf K pin []) 6 (Γ0.take 6) := g5.snoc (cal_D (x := "plus") (st := st_plus) (mls := []) Pk g5 F5 sc_plus tr_plus (fun _ _ _ _ _ _ us hl => match us, hl with | [_, _], _ => rfl) (fun l M Q E h => by first | (unfold φ_plus at h; split at h <;> first | rfl | exact False.elim h) | (rcases l with _ | ⟨_, _ | ⟨_, _ | ⟨_, l⟩⟩⟩ <;> first | rfl | exact False.elim h)) (fun ds M Q E h => b_plus rfl h))
  obtain ⟨fd6, F6⟩ := c.def_ 5 rfl
  have g7 : GOk P w mg base (txOf K pin []) 7 (Γ0.take 7) := g6.snoc (cal_D (x := "minus") (st := st_minus) (mls := []) Pk g6 F6 sc_minus tr_minus (fun _ _ _ _ _ _ us hl => match us, hl with | [_, _], _ => rfl) (fun l M Q E h => by first | (unfold φ_minus at h; split at h <;> first | rfl | exact False.elim h) | (rcases l with _ | ⟨_, _ | ⟨_, _ | ⟨_, l⟩⟩⟩ <;> first | rfl | exact False.elim h)) (fun ds M Q E h => b_minus rfl h))
  obtain ⟨fd7, F7⟩ := c.def_ 6 rfl
  have g8 : GOk P w mg base (txOf K pin []) 8 (Γ0.take 8) := g7.snoc (cal_D (x := "times") (st := st_times) (mls := []) Pk g7 F7 sc_times tr_times (fun _ _ _ _ _ _ us hl => match us, hl with | [_, _], _ => rfl) (fun l M Q E h => by first | (unfold φ_times at h; split at h <;> first | rfl | exact False.elim h) | (rcases l with _ | ⟨_, _ | ⟨_, _ | ⟨_, l⟩⟩⟩ <;> first | rfl | exact False.elim h)) (fun ds M Q E h => b_times rfl h))
  obtain ⟨fd8, F8⟩ := c.def_ 7 rfl
  have g9 : GOk P w mg base (txOf K pin []) 9 (Γ0.take 9) := g8.snoc (cal_D (x := "over") (st := st_over) (mls := []) Pk g8 F8 sc_over tr_over (fun _ _ _ _ _ _ us hl => match us, hl with | [_, _], _ => rfl) (fun l M Q E h => by first | (unfold φ_over at h; split at h <;> first | rfl | exact False.elim h) | (rcases l with _ | ⟨_, _ | ⟨_, _ | ⟨_, l⟩⟩⟩ <;> first | rfl | exact False.elim h)) (fun ds M Q E h => b_over rfl h))
  obtain ⟨fd9, F9⟩ := c.def_ 8 rfl
  have g10 : GOk P w mg base (txOf K pin []) 10 (Γ0.take 10) := g9.snoc (cal_D (x := "against") (st := st_against) (mls := []) Pk g9 F9 sc_against tr_against (fun _ _ _ _ _ _ us hl => match us, hl with | [_], _ => rfl) (fun l M Q E h => by first | (unfold φ_against at h; split at h <;> first | rfl | exact False.elim h) | (rcases l with _ | ⟨_, _ | ⟨_, l⟩⟩ <;> first | rfl | exact False.elim h)) (fun ds M Q E h => b_against h))
  obtain ⟨fd10, F10⟩ := c.def_ 9 rfl
  have g11 : GOk P w mg base (txOf K pin []) 11 (Γ0.take 11) := g10.snoc (cal_D (x := "sized") (st := st_sized) (mls := []) Pk g10 F10 sc_sized tr_sized (fun _ _ _ _ _ _ us hl => match us, hl with | [_], _ => rfl) (fun l M Q E h => by first | (unfold φ_sized at h; split at h <;> first | rfl | exact False.elim h) | (rcases l with _ | ⟨_, _ | ⟨_, l⟩⟩ <;> first | rfl | exact False.elim h)) (fun ds M Q E h => b_sized h))
  obtain ⟨fd11, F11⟩ := c.def_ 10 rfl
  have g12 : GOk P w mg base (txOf K pin []) 12 (Γ0.take 12) := g11.snoc (cal_D (x := "order") (st := st_order) (mls := []) Pk g11 F11 sc_order tr_order (fun _ _ _ _ _ _ us hl => match us, hl with | [_, _], _ => rfl) (fun l M Q E h => by first | (unfold φ_order at h; split at h <;> first | rfl | exact False.elim h) | (rcases l with _ | ⟨_, _ | ⟨_, _ | ⟨_, l⟩⟩⟩ <;> first | rfl | exact False.elim h)) (fun ds M Q E h => b_order h))
  obtain ⟨fd12, F12⟩ := c.def_ 11 rfl
  have g13 : GOk P w mg base (txOf K pin []) 13 (Γ0.take 13) := g12.snoc (cal_D (x := "below") (st := st_below) (mls := []) Pk g12 F12 sc_below tr_below (fun _ _ _ _ _ _ us hl => match us, hl with | [_, _], _ => rfl) (fun l M Q E h => by first | (unfold φ_below at h; split at h <;> first | rfl | exact False.elim h) | (rcases l with _ | ⟨_, _ | ⟨_, _ | ⟨_, l⟩⟩⟩ <;> first | rfl | exact False.elim h)) (fun ds M Q E h => b_below rfl h))
  obtain ⟨fd13, F13⟩ := c.def_ 12 rfl
  have g14 : GOk P w mg base (txOf K pin []) 14 (Γ0.take 14) := g13.snoc (cal_D (x := "at_most") (st := st_at_most) (mls := []) Pk g13 F13 sc_at_most tr_at_most (fun _ _ _ _ _ _ us hl => match us, hl with | [_, _], _ => rfl) (fun l M Q E h => by first | (unfold φ_at_most at h; split at h <;> first | rfl | exact False.elim h) | (rcases l with _ | ⟨_, _ | ⟨_, _ | ⟨_, l⟩⟩⟩ <;> first | rfl | exact False.elim h)) (fun ds M Q E h => b_at_most rfl h))
  obtain ⟨fd14, F14⟩ := c.def_ 13 rfl
  have g15 : GOk P w mg base (txOf K pin []) 15 (Γ0.take 15) := g14.snoc (cal_D (x := "least_of") (st := st_least_of) (mls := []) Pk g14 F14 sc_least_of tr_least_of (fun _ _ _ _ _ _ us hl => match us, hl with | [_], _ => rfl) (fun l M Q E h => by first | (unfold φ_least_of at h; split at h <;> first | rfl | exact False.elim h) | (rcases l with _ | ⟨_, _ | ⟨_, l⟩⟩ <;> first | rfl | exact False.elim h)) (fun ds M Q E h => b_least_of rfl h))
  obtain ⟨fd15, F15⟩ := c.def_ 14 rfl
  have g16 : GOk P w mg base (txOf K pin []) 16 (Γ0.take 16) := g15.snoc (cal_D (x := "most_of") (st := st_most_of) (mls := []) Pk g15 F15 sc_most_of tr_most_of (fun _ _ _ _ _ _ us hl => match us, hl with | [_], _ => rfl) (fun l M Q E h => by first | (unfold φ_most_of at h; split at h <;> first | rfl | exact False.elim h) | (rcases l with _ | ⟨_, _ | ⟨_, l⟩⟩ <;> first | rfl | exact False.elim h)) (fun ds M Q E h => b_most_of rfl rfl h))
  obtain ⟨fd16, F16⟩ := c.def_ 15 rfl
  have g17 : GOk P w mg base (txOf K pin []) 17 (Γ0.take 17) := g16.snoc (cal_D (x := "floor") (st := st_floor) (mls := []) Pk g16 F16 sc_floor tr_floor (fun _ _ _ _ _ _ us hl => match us, hl with | [_], _ => rfl) (fun l M Q E h => by first | (unfold φ_floor at h; split at h <;> first | rfl | exact False.elim h) | (rcases l with _ | ⟨_, _ | ⟨_, l⟩⟩ <;> first | rfl | exact False.elim h)) (fun ds M Q E h => b_floor h))
  obtain ⟨fd17, F17⟩ := c.def_ 16 rfl
  have g18 : GOk P w mg base (txOf K pin []) 18 (Γ0.take 18) := g17.snoc (cal_D (x := "ceiling") (st := st_ceiling) (mls := []) Pk g17 F17 sc_ceiling tr_ceiling (fun _ _ _ _ _ _ us hl => match us, hl with | [_], _ => rfl) (fun l M Q E h => by first | (unfold φ_ceiling at h; split at h <;> first | rfl | exact False.elim h) | (rcases l with _ | ⟨_, _ | ⟨_, l⟩⟩ <;> first | rfl | exact False.elim h)) (fun ds M Q E h => b_ceiling h))
  obtain ⟨fd18, F18⟩ := c.def_ 18 rfl
  have g19 : GOk P w mg base (txOf K pin []) 19 (Γ0.take 19) := g18.snoc (cal_D (x := "raised") (st := st_raised) (mls := []) Pk g18 F18 sc_raised tr_raised (fun _ _ _ _ _ _ us hl => match us, hl with | [_, _], _ => rfl) (fun l M Q E h => by first | (unfold φ_raised at h; split at h <;> first | rfl | exact False.elim h) | (rcases l with _ | ⟨_, _ | ⟨_, _ | ⟨_, l⟩⟩⟩ <;> first | rfl | exact False.elim h)) (fun ds M Q E h => b_raised h))
  obtain ⟨fd19, F19⟩ := c.def_ 17 rfl
  have g20 : GOk P w mg base (txOf K pin []) 20 (Γ0.take 20) := g19.snoc (cal_D (x := "power") (st := st_power) (mls := []) Pk g19 F19 sc_power tr_power (fun _ _ _ _ _ _ us hl => match us, hl with | [_, _], _ => rfl) (fun l M Q E h => by first | (unfold φ_power at h; split at h <;> first | rfl | exact False.elim h) | (rcases l with _ | ⟨_, _ | ⟨_, _ | ⟨_, l⟩⟩⟩ <;> first | rfl | exact False.elim h)) (fun ds M Q E h => b_power rfl h))
  obtain ⟨fd20, F20⟩ := c.def_ 19 rfl
  have g21 : GOk P w mg base (txOf K pin []) 21 (Γ0.take 21) := g20.snoc (cal_D (x := "root_below") (st := st_root_below) (mls := []) Pk g20 F20 sc_root_below tr_root_below (fun _ _ _ _ _ _ us hl => match us, hl with | [_], _ => rfl) (fun l M Q E h => by first | (unfold φ_root_below at h; split at h <;> first | rfl | exact False.elim h) | (rcases l with _ | ⟨_, _ | ⟨_, l⟩⟩ <;> first | rfl | exact False.elim h)) (fun ds M Q E h => b_root_below h))
  obtain ⟨fd21, F21⟩ := c.def_ 20 rfl
  have g22 : GOk P w mg base (txOf K pin []) 22 (Γ0.take 22) := g21.snoc (cal_D (x := "digits_in") (st := st_digits_in) (mls := [(76, 11)]) Pk g21 F21 sc_digits_in tr_digits_in (fun _ _ _ _ _ _ us hl => match us, hl with | [_, _], _ => rfl) (fun l M Q E h => by first | (unfold φ_digits_in at h; split at h <;> first | rfl | exact False.elim h) | (rcases l with _ | ⟨_, _ | ⟨_, _ | ⟨_, l⟩⟩⟩ <;> first | rfl | exact False.elim h)) (fun ds M Q E h => b_digits_in h))
  obtain ⟨fd22, F22⟩ := c.def_ 21 rfl
  have g23 : GOk P w mg base (txOf K pin []) 23 (Γ0.take 23) := g22.snoc (cal_D (x := "_law_draws") (st := st_law_draws) (mls := [(87, 11)]) Pk g22 F22 sc_law_draws tr_law_draws (fun _ _ _ _ _ _ us hl => match us, hl with | [_], _ => rfl) (fun l M Q E h => by first | (unfold φ_law_draws at h; split at h <;> first | rfl | exact False.elim h) | (rcases l with _ | ⟨_, _ | ⟨_, l⟩⟩ <;> first | rfl | exact False.elim h)) (fun ds M Q E h => b_law_draws h))
  obtain ⟨fd23, F23⟩ := c.def_ 22 rfl
  have g24 : GOk P w mg base (txOf K pin []) 24 (Γ0.take 24) := g23.snoc (cal_D (x := "_law_draw") (st := st_law_draw) (mls := []) Pk g23 F23 sc_law_draw tr_law_draw (fun _ _ _ _ _ _ us hl => match us, hl with | [_, _], _ => rfl) (fun l M Q E h => by first | (unfold φ_law_draw at h; split at h <;> first | rfl | exact False.elim h) | (rcases l with _ | ⟨_, _ | ⟨_, _ | ⟨_, l⟩⟩⟩ <;> first | rfl | exact False.elim h)) (fun ds M Q E h => b_law_draw h))
  obtain ⟨fd24, F24⟩ := c.def_ 23 rfl
  have g25 : GOk P w mg base (txOf K pin []) 30 (Γ0.take 25) := (GOk.mono (k' := 29) g24 (by decide)).snoc (cal_same Pk g24 F24 4 29 (by decide))
  obtain ⟨fd25, F25⟩ := c.def_ 24 rfl
  have g26 : GOk P w mg base (txOf K pin []) 31 (Γ0.take 26) := g25.snoc (cal_D (x := "_law_low") (st := st_law_low) (mls := []) Pk g25 F25 sc_law_low tr_law_low (fun _ _ _ _ _ _ us hl => match us, hl with | [_, _], _ => rfl) (fun l M Q E h => by first | (unfold φ_law_low at h; split at h <;> first | rfl | exact False.elim h) | (rcases l with _ | ⟨_, _ | ⟨_, _ | ⟨_, l⟩⟩⟩ <;> first | rfl | exact False.elim h)) (fun ds M Q E h => b_law_low h))
  obtain ⟨fd26, F26⟩ := c.def_ 25 rfl
  have g27 : GOk P w mg base (txOf K pin []) 32 (Γ0.take 27) := g26.snoc (cal_D (x := "_law_bad") (st := st_law_bad) (mls := []) Pk g26 F26 sc_law_bad tr_law_bad (fun _ _ _ _ _ _ us hl => match us, hl with | [_, _, _], _ => rfl) (fun l M Q E h => by rcases l with _ | ⟨_, _ | ⟨_, _ | ⟨_, _ | ⟨_, l⟩⟩⟩⟩ <;> first | rfl | exact False.elim h | (revert h; unfold φ_law_bad; split <;> intro h <;> first | exact False.elim h | simp_all)) (fun ds M Q E h => b_law_bad rfl rfl rfl h))
  exact g27.mono (by decide)
end
theorem facts {P : Program} {w : World} {K : PySem.W.Frag} {h : Heap} {mg : Str → Option Value} {f : Addr} (X : K.In h) (G : h.Ns mainGlobals mg) (hfa : mg ("law" : Str) = some (.ref f)) (c : He.SaysD fa fn K) :
    ∃ fd : FuncData, (∀ (s : Shared) (v : Value), BindsTo s fd ⟨[v], []⟩ [("script", v)]) ∧ ∀ base : Heap, K.In base → base.Ns mainGlobals mg → FnOk P w K mg base CXE 41 f fd ["script"] (liftSp (txOf K pin []) 1 DL.φ_law) := by
  obtain ⟨fd, F⟩ := c.def_ 26 (d := dd "law" 31) rfl
  have e := hfa.symm.trans (He.glo_ok X G (fact_mem c (show He.Fa.glo "law" ∈ fa by simp [fa, faOf, nms])))
  cases e
  have b := FunD.bindsA (ps := ["script"]) F fun _ _ _ _ _ _ us hl => match us, hl with | [_], _ => rfl
  have Pk : Pok mg (txOf K pin []) pin (xmOf xms) := pok_of X G c (by decide +kernel) rfl
  refine ⟨fd, fun s v => b s [v] rfl, fun base _ _ => fn_any (fn_D (T := txOf K pin []) (mls := []) (x := "law") (params := defArgs st_law_k00) (body := defBody st_law_k00) (scope := defScope st_law_k00) F sc_law_k00 Pk (calls Pk c) tr_law_k00 fun ds M Q E q _ => b_law ?_ q)⟩
  exact ⟨rfl, rfl, rfl, rfl, rfl, rfl, rfl, rfl, rfl, rfl, rfl, rfl, rfl, rfl, rfl, rfl, rfl, rfl, rfl, rfl, rfl, rfl, rfl, rfl, rfl, rfl, rfl⟩
abbrev R : PySem.W.OpenRow := PySem.W.OpenLaw.row PySem.Challenge.rw_roundonce_k00_whole_fractions
abbrev hk : PySem.W.Hook := He.hookD 4 fa fn
def ob (s : PySem.W.SharedT) : He.AlD := He.obsDG 4 fa fn (HandSHeadRun.getT s)
theorem ob_eq (s : PySem.W.SharedT) : ob s = hk.obs s.abs := He.obsDG_eq (HandSHeadRun.getT_eq s)
def loose : List Str := ["RoundError", "BadPlan", "is_whole", "shared", "fraction", "is_fraction", "plus", "minus", "times", "over", "against", "sized", "order", "below", "at_most", "least_of", "most_of", "floor", "ceiling", "power", "raised", "root_below", "digits_in", "_law_draws", "_law_draw", "_law_same", "_law_low", "_law_bad"]
theorem run (w : World) : HandSHeadRun.RunEq R (PySem.W.view R.prog [31]) hk ob 2000 loose w := by
  intro os
  kernel_rfl
end U
open PySem PySem.W PySem.Calls PyProof.Rows
theorem PySem.Challenge.cw_roundonce_k00_whole_fractions_holds : PySem.Challenge.rw_roundonce_k00_whole_fractions.Holds := by
  w_on; o_law
  refine HandSHeadRun.head_any (r := OpenLaw.row PySem.Challenge.rw_roundonce_k00_whole_fractions) (q := view (OpenLaw.row PySem.Challenge.rw_roundonce_k00_whole_fractions).prog [31]) (H := U.hk) (ob := U.ob) (M := 2000) (loose := U.loose) (d := HandSHeadRun.topDef (OpenLaw.row PySem.Challenge.rw_roundonce_k00_whole_fractions).prog 31) (kwd := []) U.ob_eq
    (by kernel_rfl) (fun s => by kernel_rfl) U.run (by kernel_rfl) (by kernel_rfl) (by kernel_rfl) (by rfl) (by first | assumption | decide +kernel) (by decide +kernel) ⟨rfl, rfl, rfl, rfl, rfl, by decide +kernel⟩ ?hw ?hc
  case hw => w_witness2
  case hc =>
    refine L2.walk_ofE (l := PySem.Challenge.rw_roundonce_k00_whole_fractions) (n := 63) (k := 41) (x := "script") (CX := DL.CXE) rfl (by decide) (by kernel_rfl) ⟨rfl, by decide, by decide⟩ ?F DL.CXE.no
    intro w mg fa h Y G hmg0
    obtain ⟨K, KX, c⟩ := Y
    have hmg : mg ("law" : PySem.Str) = some (.ref fa) := by
      have e : (HandSHeadRun.topDef (OpenLaw.row PySem.Challenge.rw_roundonce_k00_whole_fractions).prog 31).name = ("law" : PySem.Str) := by kernel_rfl
      rw [← e]
      exact hmg0
    obtain ⟨fd, hb, hF⟩ := U.facts (P := (PySem.Challenge.rw_roundonce_k00_whole_fractions).prog) (w := w) KX G hmg c
    exact ⟨K, fd, DL.liftSp (DL.txOf K U.pin []) 1 DL.φ_law, KX, hb, fun H a ns hl ho hS => DL.law_sp hl ho hS, hF⟩
end
