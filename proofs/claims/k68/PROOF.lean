import PyProof.Rows.All
import Wide.All
import OpenK.AllK
import Wide.FinOn
import KE.KStateDown
import Lean
import HandS.ForMost
import HandS.Exc
import HandS.Flow
import HandS.Style
import HandS.More
import HandS.TupAny
import HandS.IsInst
import HandS.WideBits
import HandS.Defaults
import HandS.ExcOwn
import HandS.TryOnly
import HandS.NestedK
import HandS.CallSlots
import HandS.CallLocal
import HandS.HeadHook1
import HandS.WordsExc
import HandS.Head0
import HandS.Head1
import HandS.Head2
import HandS.HeadEnd
import HandS.HeadHook2
import HandS.HeadHook3
import HandS.HeadHook4
import HandS.EndTab
import KE.RegMulBits
import PySem.Challenge.RW_roundonce_k68_whole_intervals_of_values
set_option Elab.async false
set_option autoImplicit false
set_option linter.all false
set_option maxRecDepth 100000
/-! The D-layer: values as data, over HandS. -/
namespace DL
open PySem PySem.Spec PyProof.Rows L2
/-! ### data -/
inductive D where
  | non | bl (b : Bool) | int (i : Int) | str (s : Str) | tup (xs : List D) | lst (xs : List D) | dic (ks : List Key) (vs : List D) | ref (a : Addr) | ty (n : String) | fn (j : Nat) | clo (j : Nat) (ws : List D)
instance : Inhabited D := ⟨.non⟩
/-- the text: its written part, where its callables, error classes, own classes stand -/
structure Tx where
  K : PySem.W.Frag
  fA : Nat → Addr
  xA : Nat → Addr
  cA : Nat → Addr
  nF : Nat → List (Str × Addr) → Addr → NdefX.NF
  nfr : Nat → List Str
  isN : Nat → Bool
  tabs : List NdefX.NTab
/-- a locked thing, or one of the text's own -/
def Fz (H : Hp) (a : Addr) (u : HO) : Prop := ∃ o, H a = some (.frz o u)
def FzL (K : PySem.W.Frag) (H : Hp) (a : Addr) (xs : List V) : Prop :=
  Fz H a (.lst xs) ∨
    ∃ (o : Obj) (its : Array Value) (n : Nat), K.lookup a = some o ∧ o.cls = .type "list" ∧ o.dict = none ∧ o.data = .seq its n ∧ its.size ≤ sizeLine ∧ Vals xs its.toList
theorem FzL.seq {K : PySem.W.Frag} {H : Hp} {a : Addr} {xs : List V} (h : FzL K H a xs) : SqL K H a xs := by
  rcases h with h | h
  · exact .inl (.inr h)
  · exact .inr h
def cellO (c : Addr) (o : Obj) : HO := .frz o (.ext fun h => h.get? c = some o)
/-- captured cells, locked: names fr, values vs -/
structure ClF (H : Hp) (cl : List (Str × Addr)) (fr : List Str) (vs : List V) : Prop where
  len : vs.length = fr.length
  all : ∀ y c, cl.lookup y = some c → ∃ o v, H c = some (cellO c o) ∧ o.data = .cell v
  inj : ∀ x y c, cl.lookup x = some c → cl.lookup y = some c → x = y
  has : ∀ (i : Nat) (y : Str) (v : V), fr[i]? = some y → vs[i]? = some v → ∃ c o x, cl.lookup y = some c ∧ H c = some (cellO c o) ∧ o.data = .cell (some x) ∧ RelV v x
mutual
inductive Den (T : Tx) (H : Hp) : V → D → Prop where
  | non : Den T H .non .non
  | bl (b : Bool) : Den T H (.bl b) (.bl b)
  | int (i : Int) : Den T H (.int i) (.int i)
  | str (s : Str) (h : s.length ≤ sizeLine) : Den T H (.str s) (.str s)
  | ty (n : String) : Den T H (.ty n) (.ty n)
  | ref (a : Addr) : Den T H (.ref a) (.ref a)
  | fn (j : Nat) (h : T.isN j = false) : Den T H (.ref (T.fA j)) (.fn j)
  | tup {a : Addr} {vs : List V} {ds : List D} (h : SqT T.K H a vs) (r : DenL T H vs ds) : Den T H (.ref a) (.tup ds)
  | lst {a : Addr} {vs : List V} {ds : List D} (h : FzL T.K H a vs) (r : DenL T H vs ds) : Den T H (.ref a) (.lst ds)
  | dic {a : Addr} {ks : List Key} {vs : List V} {ds : List D} (h : Fz H a (.dK (ks.zip vs))) (hl : ks.length = vs.length) (r : DenL T H vs ds) : Den T H (.ref a) (.dic ks ds)
  | clo {f : Addr} {cl : List (Str × Addr)} {vs : List V} {ds : List D} {j : Nat} {c : Addr} (hj : T.isN j = true) (h : Fz H f (NdefX.FnO f (T.nF j cl c))) (hk : H c = some (LamX.CodeO c (T.nF j cl c).qual)) (hc : ClF H cl (T.nfr j) vs) (r : DenL T H vs ds) : Den T H (.ref f) (.clo j ds)
inductive DenL (T : Tx) (H : Hp) : List V → List D → Prop where
  | nil : DenL T H [] []
  | cons {v : V} {d : D} {vs : List V} {ds : List D} (h : Den T H v d) (r : DenL T H vs ds) : DenL T H (v :: vs) (d :: ds)
end
/-- what stays of a heap: tuples and what is locked -/
structure Stb (H H' : Hp) : Prop where
  tup : ∀ a xs, H a = some (.tup xs) → H' a = some (.tup xs)
  frz : ∀ a o u, H a = some (.frz o u) → H' a = some (.frz o u)
  cod : ∀ a q, H a = some (LamX.CodeO a q) → H' a = some (LamX.CodeO a q)
theorem Stb.refl (H : Hp) : Stb H H := ⟨fun _ _ h => h, fun _ _ _ h => h, fun _ _ h => h⟩
theorem Stb.trans {H H1 H2 : Hp} (a : Stb H H1) (b : Stb H1 H2) : Stb H H2 := ⟨fun c xs h => b.tup c xs (a.tup c xs h), fun c o u h => b.frz c o u (a.frz c o u h), fun c q h => b.cod c q (a.cod c q h)⟩
/-- .. and the tables of code objects -/
structure Stb1 (H H' : Hp) : Prop extends Stb H H' where
  tbl : ∀ a ps, H a = some (.tbl ps) → H' a = some (.tbl ps)
instance {H H' : Hp} : Coe (Stb1 H H') (Stb H H') := ⟨Stb1.toStb⟩
theorem Stb1.of {H H' : Hp} (h : ∀ a o, H a = some o → H' a = some o) : Stb1 H H' := ⟨⟨fun a _ => h a _, fun a _ _ => h a _, fun a _ => h a _⟩, fun a _ => h a _⟩
/-- a new object -/
theorem Stb1.new {H : Hp} {p : Addr} {o : HO} (n : H p = none) : Stb1 H (upd H p o) := Stb1.of fun a u h => by rw [upd_ne (ne_of_none h n)]; exact h
theorem Stb.new {H : Hp} {p : Addr} {o : HO} (n : H p = none) : Stb H (upd H p o) := (Stb1.new n).toStb
/-- what may be written is written -/
def Wr : Option HO → Prop
  | some (.lst _) => True
  | some (.dK _) => True
  | some (.ins _ _ _) => True
  | some (.xd _) => True
  | _ => False
theorem Stb1.wr {H : Hp} {p : Addr} {o : HO} (n : Wr (H p)) : Stb1 H (upd H p o) := by
  have ne : ∀ {a : Addr} {u : HO}, H a = some u → ¬ Wr (some u) → a ≠ p := fun h w => by
    rintro rfl
    rw [h] at n
    exact w n
  refine ⟨⟨fun a xs h => ?_, fun a o u h => ?_, fun a q h => ?_⟩, fun a ps h => ?_⟩
  · rw [upd_ne (ne h id)]; exact h
  · rw [upd_ne (ne h id)]; exact h
  · rw [upd_ne (ne h id)]; exact h
  · rw [upd_ne (ne h id)]; exact h
theorem Stb1.tabs {H H' : Hp} {ts : List NdefX.NTab} (s : Stb1 H H') (t : NdefX.TabsN ts H) : NdefX.TabsN ts H' := fun p hp => by
  obtain ⟨ps, h1, h2, h3⟩ := t p hp
  exact ⟨ps, s.tbl _ _ h1, h2, fun pos cv hc => let ⟨c, e, h⟩ := h3 pos cv hc; ⟨c, e, s.cod _ _ h⟩⟩
theorem SqT.stb {K : PySem.W.Frag} {H H' : Hp} {a : Addr} {xs : List V} (s : Stb H H') (h : SqT K H a xs) : SqT K H' a xs := by
  rcases h with (h | ⟨o, h⟩) | h
  · exact .inl (.inl (s.tup _ _ h))
  · exact .inl (.inr ⟨o, s.frz _ _ _ h⟩)
  · exact .inr h
theorem Fz.stb {H H' : Hp} {a : Addr} {u : HO} (s : Stb H H') (h : Fz H a u) : Fz H' a u := let ⟨o, e⟩ := h; ⟨o, s.frz _ _ _ e⟩
theorem FzL.stb {K : PySem.W.Frag} {H H' : Hp} {a : Addr} {xs : List V} (s : Stb H H') (h : FzL K H a xs) : FzL K H' a xs := h.elim (fun q => .inl (q.stb s)) .inr
theorem ClF.stb {H H' : Hp} {cl : List (Str × Addr)} {fr : List Str} {vs : List V} (s : Stb H H') (h : ClF H cl fr vs) : ClF H' cl fr vs where
  len := h.len
  all := fun y c e => let ⟨o, v, a, b⟩ := h.all y c e; ⟨o, v, s.frz _ _ _ a, b⟩
  inj := h.inj
  has := fun i y v e1 e2 => let ⟨c, o, x, a, b, r⟩ := h.has i y v e1 e2; ⟨c, o, x, a, s.frz _ _ _ b, r⟩
mutual
theorem Den.stb {T : Tx} {H H' : Hp} (s : Stb H H') : ∀ {v : V} {d : D}, Den T H v d → Den T H' v d
  | _, _, .non => .non
  | _, _, .bl b => .bl b
  | _, _, .int i => .int i
  | _, _, .str z h => .str z h
  | _, _, .ty n => .ty n
  | _, _, .ref a => .ref a
  | _, _, .fn j h => .fn j h
  | _, _, .tup h r => .tup (SqT.stb s h) (DenL.stb s r)
  | _, _, .lst h r => .lst (h.stb s) (DenL.stb s r)
  | _, _, .dic h hl r => .dic (h.stb s) hl (DenL.stb s r)
  | _, _, .clo hj h hk hc r => .clo hj (h.stb s) (s.cod _ _ hk) (hc.stb s) (DenL.stb s r)
theorem DenL.stb {T : Tx} {H H' : Hp} (s : Stb H H') : ∀ {vs : List V} {ds : List D}, DenL T H vs ds → DenL T H' vs ds
  | _, _, .nil => .nil
  | _, _, .cons h r => .cons (Den.stb s h) (DenL.stb s r)
end
section
variable {T : Tx} {H : Hp}
theorem DenL.length : ∀ {vs : List V} {ds : List D}, DenL T H vs ds → vs.length = ds.length
  | _, _, .nil => rfl
  | _, _, .cons _ r => congrArg Nat.succ r.length
theorem DenL.get : ∀ {vs : List V} {ds : List D} {i : Nat} {d : D}, DenL T H vs ds → ds[i]? = some d → ∃ v, vs[i]? = some v ∧ Den T H v d
  | _, _, _, _, .nil, e => by simp at e
  | _, _, 0, _, .cons h _, e => by simp at e; subst e; exact ⟨_, rfl, h⟩
  | _, _, i + 1, d, .cons _ r, e => by
    obtain ⟨v, h1, h2⟩ := DenL.get (i := i) (d := d) r (by simpa using e)
    exact ⟨v, by simpa using h1, h2⟩
theorem DenL.append : ∀ {vs ws : List V} {ds es : List D}, DenL T H vs ds → DenL T H ws es → DenL T H (vs ++ ws) (ds ++ es)
  | _, _, _, _, .nil, s => s
  | _, _, _, _, .cons h r, s => .cons h (r.append s)
theorem DenL.set {v : V} {d : D} (h : Den T H v d) : ∀ {vs : List V} {ds : List D} (i : Nat), DenL T H vs ds → DenL T H (vs.set i v) (ds.set i d)
  | _, _, _, .nil => .nil
  | _, _, 0, .cons _ r => .cons h r
  | _, _, i + 1, .cons q r => .cons q (DenL.set h i r)
theorem DenL.take : ∀ {vs : List V} {ds : List D} (n : Nat), DenL T H vs ds → DenL T H (vs.take n) (ds.take n)
  | _, _, 0, _ => .nil
  | _, _, _ + 1, .nil => .nil
  | _, _, n + 1, .cons h r => .cons h (r.take n)
theorem DenL.drop : ∀ {vs : List V} {ds : List D} (n : Nat), DenL T H vs ds → DenL T H (vs.drop n) (ds.drop n)
  | _, _, 0, r => r
  | _, _, _ + 1, .nil => .nil
  | _, _, n + 1, .cons _ r => r.drop n
end
/-! ### what may change: lists, instances -/
inductive MO where
  | lst (xs : List D)
  | ins (c : Nat) (fs : List (Str × D))
abbrev Mem := Addr → Option MO
def DenF (T : Tx) (H : Hp) : List (Str × V) → List (Str × D) → Prop := Paired fun p q => p.1 = q.1 ∧ Den T H p.2 q.2
def MOk (T : Tx) (H : Hp) (a : Addr) : MO → Prop
  | .lst ds => ∃ vs, H a = some (.lst vs) ∧ DenL T H vs ds
  | .ins c fs => ∃ dx vs, H a = some (.ins (T.cA c) dx vs) ∧ DenF T H vs fs
def MemOk (T : Tx) (H : Hp) (M : Mem) : Prop := (∀ a o, M a = some o → MOk T H a o) ∧ NdefX.TabsN T.tabs H
def Mem.put (M : Mem) (a : Addr) (o : MO) : Mem := fun b => if b = a then some o else M b
def Mem.del (M : Mem) (a : Addr) : Mem := fun b => if b = a then none else M b
def Mem.none : Mem := fun _ => Option.none
theorem Mem.put_same {M : Mem} {a : Addr} {o : MO} : M.put a o a = some o := if_pos rfl
theorem Mem.put_ne {M : Mem} {a b : Addr} {o : MO} (h : b ≠ a) : M.put a o b = M b := if_neg h
theorem Mem.put_put {M : Mem} {a : Addr} {o u : MO} : (M.put a o).put a u = M.put a u := by funext b; unfold Mem.put; split <;> rfl
theorem Mem.del_put {M : Mem} {a : Addr} {o : MO} (h : M a = Option.none) : (M.put a o).del a = M := by
  funext b; unfold Mem.put Mem.del
  by_cases e : b = a
  · rw [if_pos e, e, h]
  · rw [if_neg e]; exact if_neg e
/-- less is known -/
def Mem.le (M M' : Mem) : Prop := ∀ a o, M a = some o → M' a = some o
theorem Mem.le_refl (M : Mem) : M.le M := fun _ _ h => h
theorem Mem.le_put {M : Mem} {a : Addr} {o : MO} (h : M a = Option.none) : M.le (M.put a o) := fun b u e => by
  rw [Mem.put_ne]; exact e
  rintro rfl; rw [h] at e; cases e
theorem Mem.le_trans {M M1 M2 : Mem} (a : M.le M1) (b : M1.le M2) : M.le M2 := fun c o h => b c o (a c o h)
theorem MemOk.le {T : Tx} {H : Hp} {M M' : Mem} (h : MemOk T H M') (l : M.le M') : MemOk T H M := ⟨fun a o e => h.1 a o (l a o e), h.2⟩
section
variable {T : Tx} {H H' : Hp} {M : Mem} {p : Addr}
theorem DenF.stb (s : Stb H H') : ∀ {vs : List (Str × V)} {fs : List (Str × D)}, DenF T H vs fs → DenF T H' vs fs
  | _, _, .nil => .nil
  | _, _, .cons h r => .cons ⟨h.1, h.2.stb s⟩ (DenF.stb s r)
/-- an object that is kept -/
theorem MOk.keep {o : MO} {a : Addr} (s : Stb H H') (k : ∀ u, H a = some u → H' a = some u) (h : MOk T H a o) : MOk T H' a o := by
  cases o with
  | lst ds => obtain ⟨vs, e, r⟩ := h; exact ⟨vs, k _ e, r.stb s⟩
  | ins C fs => obtain ⟨dx, vs, e, r⟩ := h; exact ⟨dx, vs, k _ e, r.stb s⟩
theorem MOk.there {o : MO} {a : Addr} (h : MOk T H a o) : ∃ u, H a = some u := by
  cases o with
  | lst ds => obtain ⟨vs, e, r⟩ := h; exact ⟨_, e⟩
  | ins C fs => obtain ⟨dx, vs, e, r⟩ := h; exact ⟨_, e⟩
theorem MemOk.free (h : MemOk T H M) (n : H p = none) : M p = none := by
  cases e : M p with
  | none => rfl
  | some o => obtain ⟨u, q⟩ := (h.1 p o e).there; rw [n] at q; cases q
/-- a new object that is not tracked here -/
theorem MemOk.new {o : HO} (h : MemOk T H M) (n : H p = none) : MemOk T (upd H p o) M :=
  ⟨fun a u e => (h.1 a u e).keep (Stb.new n) fun v q => by rw [upd_ne (ne_of_none q n)]; exact q, (Stb1.new n).tabs h.2⟩
/-- an object is written -/
theorem MemOk.put {o : HO} {m : MO} (h : MemOk T H M) (s : Stb1 H (upd H p o)) (new : MOk T (upd H p o) p m) : MemOk T (upd H p o) (M.put p m) := ⟨fun a u e => by
  by_cases q : a = p
  · subst q; rw [Mem.put_same] at e; cases e; exact new
  · rw [Mem.put_ne q] at e
    exact (h.1 a u e).keep s fun v z => (by rw [upd_ne q]; exact z), s.tabs h.2⟩
/-- an object of which nothing is known any more -/
theorem MemOk.del {o : HO} (h : MemOk T H M) (s : Stb1 H (upd H p o)) : MemOk T (upd H p o) (M.del p) := ⟨fun a u e => by
  unfold Mem.del at e
  by_cases q : a = p
  · rw [if_pos q] at e; cases e
  · rw [if_neg q] at e
    exact (h.1 a u e).keep s fun v z => (by rw [upd_ne q]; exact z), s.tabs h.2⟩
theorem MemOk.none (t : NdefX.TabsN T.tabs H) : MemOk T H Mem.none := ⟨fun _ _ e => (by cases e), t⟩
end
/-! ### slots -/
abbrev Ev := List (Option D)
structure EnvOk (T : Tx) (H : Hp) (σ : L2.St) (δ : Ev) : Prop where
  len : σ.length = δ.length
  get : ∀ (i : Nat) (d : D), δ[i]? = some (some d) → ∃ v, σ[i]? = some (some v) ∧ Den T H v d
theorem EnvOk.stb {T : Tx} {H H' : Hp} {σ : L2.St} {δ : Ev} (s : Stb H H') (h : EnvOk T H σ δ) : EnvOk T H' σ δ := ⟨h.len, fun i d e => let ⟨v, a, b⟩ := h.get i d e; ⟨v, a, b.stb s⟩⟩
theorem EnvOk.set {T : Tx} {H : Hp} {σ : L2.St} {δ : Ev} {v : V} {d : D} (h : EnvOk T H σ δ) (r : Den T H v d) (i : Nat) : EnvOk T H (σ.set i (some v)) (δ.set i (some d)) := by
  refine ⟨by simp [h.len], fun j e q => ?_⟩
  by_cases z : i = j
  · subst z
    have hi : i < δ.length := by
      have := (List.getElem?_eq_some_iff.mp q).1
      simpa using this
    rw [List.getElem?_set_self hi] at q
    cases q
    exact ⟨v, by rw [List.getElem?_set_self (by rw [h.len]; exact hi)], r⟩
  · rw [List.getElem?_set_ne z] at q
    rw [List.getElem?_set_ne z]
    exact h.get j e q
theorem EnvOk.setN {T : Tx} {H : Hp} {σ : L2.St} {δ : Ev} (h : EnvOk T H σ δ) (i : Nat) : EnvOk T H (σ.set i none) (δ.set i none) := by
  refine ⟨by simp [h.len], fun j e q => ?_⟩
  by_cases z : i = j
  · subst z
    have hi : i < δ.length := by
      have := (List.getElem?_eq_some_iff.mp q).1
      simpa using this
    rw [List.getElem?_set_self hi] at q
    cases q
  · rw [List.getElem?_set_ne z] at q
    rw [List.getElem?_set_ne z]
    exact h.get j e q
def wipeD (δ : Ev) : List Nat → Ev
  | [] => δ
  | v :: vs => (wipeD δ vs).set v none
theorem EnvOk.wipe {T : Tx} {H : Hp} {σ : L2.St} {δ : Ev} (h : EnvOk T H σ δ) : ∀ vs, EnvOk T H (L2.wipe σ vs) (wipeD δ vs)
  | [] => h
  | v :: vs => (h.wipe vs).setN v
/-- the state: since the entry what stays has stayed; slots; what may change -/
structure Rl (T : Tx) (H0 : Hp) (σ : L2.St) (H : Hp) (δ : Ev) (M : Mem) : Prop where
  base : Stb H0 H
  env : EnvOk T H σ δ
  mem : MemOk T H M
section
variable {T : Tx} {H0 H H' : Hp} {σ : L2.St} {δ : Ev} {M M' : Mem}
theorem Rl.to (r : Rl T H0 σ H δ M) (s : Stb H H') (m : MemOk T H' M') : Rl T H0 σ H' δ M' := ⟨r.base.trans s, r.env.stb s, m⟩
theorem Rl.new {p : Addr} {o : HO} (r : Rl T H0 σ H δ M) (n : H p = none) : Rl T H0 σ (upd H p o) δ M := r.to (Stb.new n) (r.mem.new n)
end
/-! ### weakest preconditions over data -/
abbrev QD := D → Mem → Prop
abbrev WpE := Ev → Mem → QD → Prop
abbrev WpT := Ev → Mem → (Bool → Mem → Prop) → Prop
abbrev WpA := Ev → Mem → (List D → Mem → Prop) → Prop
structure En where
  nx : Ev → Mem → Prop
  rt : QD
  bk : Ev → Mem → Prop := fun _ _ => False
  ct : Ev → Mem → Prop := fun _ _ => False
abbrev WpS := En → Ev → Mem → Prop
/-- an exception: which of the text's classes, its fields -/
abbrev XD := Nat → List (Str × D) → Mem → Prop
abbrev WD := Nat → List (Str × D) → Ev → Mem → Prop
def liftE (T : Tx) (H0 : Hp) (w : WpE) : TE := fun σ H k => ∃ δ M Q, Rl T H0 σ H δ M ∧ w δ M Q ∧ ∀ v H' d M', Rl T H0 σ H' δ M' → Stb H H' → Den T H' v d → Q d M' → k v H'
def liftT (T : Tx) (H0 : Hp) (w : WpT) : TT := fun σ H k => ∃ δ M Q, Rl T H0 σ H δ M ∧ w δ M Q ∧ ∀ b H' M', Rl T H0 σ H' δ M' → Stb H H' → Q b M' → k b H'
def liftA (T : Tx) (H0 : Hp) (w : WpA) : TA := fun σ H k => ∃ δ M Q, Rl T H0 σ H δ M ∧ w δ M Q ∧ ∀ vs H' ds M', Rl T H0 σ H' δ M' → Stb H H' → DenL T H' vs ds → Q ds M' → k vs H'
def liftS (T : Tx) (H0 : Hp) (w : WpS) : TS := fun D σ H => ∃ δ M E, Rl T H0 σ H δ M ∧ w E δ M ∧
  (∀ σ' H' δ' M', Rl T H0 σ' H' δ' M' → Stb H H' → E.nx δ' M' → D.nx σ' H') ∧ (∀ v H' d M', Stb H0 H' → Stb H H' → MemOk T H' M' → Den T H' v d → E.rt d M' → D.rt v H') ∧
  (∀ σ' H' δ' M', Rl T H0 σ' H' δ' M' → Stb H H' → E.bk δ' M' → D.bk σ' H') ∧ (∀ σ' H' δ' M', Rl T H0 σ' H' δ' M' → Stb H H' → E.ct δ' M' → D.ct σ' H')
/-- an exception's fields -/
def ExF (T : Tx) (H : Hp) (d : Option Addr) (fs : List (Str × D)) : Prop := match d with
  | none => fs = []
  | some a => ∃ vs, H a = some (.xd vs) ∧ DenF T H vs fs
def liftW (T : Tx) (H0 : Hp) (W : WD) : WX := fun cls d σ H => ∃ j fs δ M, cls = .ref (T.xA j) ∧ ExF T H d fs ∧ Rl T H0 σ H δ M ∧ W j fs δ M
/-- a contract over data -/
abbrev DSp := List D → Mem → QD → XD → Prop
def liftSp (T : Tx) (n : Nat) (φ : DSp) : Sp := fun vs H Q E => ∃ ds M QQ EE, vs.length = n ∧ DenL T H vs ds ∧ MemOk T H M ∧ φ ds M QQ EE ∧
  (∀ v H' d M', Stb H H' → MemOk T H' M' → Den T H' v d → QQ d M' → Q v H') ∧ (∀ j d fs H' M', Stb H H' → MemOk T H' M' → ExF T H' d fs → EE j fs M' → E (.ref (T.xA j)) d H')
section
variable {X : Cx}
theorem _root_.L2.PE.weak {e : Expr} {t t' : TE} (h : PE X e t) (w : ∀ σ H k, t' σ H k → t σ H k) : PE X e t' := ⟨fun p s σ H k I q => h.run p s σ H k I (w σ H k q)⟩
theorem _root_.L2.PT.weak {e : Expr} {t t' : TT} (h : PT X e t) (w : ∀ σ H k, t' σ H k → t σ H k) : PT X e t' := ⟨fun p s σ H k I q => h.run p s σ H k I (w σ H k q)⟩
theorem _root_.L2.PW.weak {e : Expr} {t t' : TT} (h : PW X e t) (w : ∀ σ H k, t' σ H k → t σ H k) : PW X e t' := ⟨fun wh p s σ H k I q => h.run wh p s σ H k I (w σ H k q)⟩
theorem _root_.L2.PA.weak {e : List Expr} {t t' : TA} (h : PA X e t) (w : ∀ σ H k, t' σ H k → t σ H k) : PA X e t' := ⟨fun pos p s σ H k I q => h.run pos p s σ H k I (w σ H k q)⟩
theorem _root_.L2.PS.weak {st : Stmt} {t t' : TS} (h : PS X st t) (w : ∀ D σ H, t' D σ H → t D σ H) : PS X st t' := ⟨fun p s σ H D I q => h.run p s σ H D I (w D σ H q)⟩
theorem _root_.L2.PSs.weak {st : List Stmt} {t t' : TS} (h : PSs X st t) (w : ∀ D σ H, t' D σ H → t D σ H) : PSs X st t' := ⟨fun p s σ H D I q => h.run p s σ H D I (w D σ H q)⟩
end
end DL
namespace DL
open PySem PySem.Spec PyProof.Rows L2
/-! ### a new list is locked: from then on it is data -/
theorem lock_inv {X : Cx} {pins : List (Addr × Obj)} {σ : L2.St} {H : Hp} {s : Shared} {p : Addr} {u : HO} (I : Inv X pins σ H s) (hp : H p = some u) (hu : (∃ xs, u = .lst xs) ∨ ∃ kvs, u = .dK kvs) :
    ∃ o, Inv X pins σ (upd H p (.frz o u)) s := by
  have hobj : ∃ o, s.heap.get? p = some o ∧ ∀ H' : Hp, ObjOk X.prog X.w H' s.heap p u := by
    have q := I.hok p u hp
    rcases hu with ⟨xs, rfl⟩ | ⟨kvs, rfl⟩
    · obtain ⟨z, its, n, r, e⟩ := (show ObjOk X.prog X.w H s.heap p (.lst xs) from q)
      exact ⟨_, e, fun H' => ⟨z, its, n, r, e⟩⟩
    · obtain ⟨z, y, vs, r, o, es, ep, e, c⟩ := (show ObjOk X.prog X.w H s.heap p (.dK kvs) from q)
      exact ⟨_, e, fun H' => ⟨z, y, vs, r, o, es, ep, e, c⟩⟩
  obtain ⟨o, eo, all⟩ := hobj
  have nm : ∀ (b : Addr) (v : HO), H b = some v → ((∀ xs, v ≠ .lst xs) ∧ ∀ kvs, v ≠ .dK kvs) → b ≠ p := fun b v e n z => by
    subst z
    rw [hp] at e
    cases e
    rcases hu with ⟨xs, rfl⟩ | ⟨kvs, rfl⟩
    · exact n.1 xs rfl
    · exact n.2 kvs rfl
  refine ⟨o, I.un (h' := s.heap) (t' := s.toks) ⟨fun b v e _ _ _ => e, fun b v e _ _ _ => ⟨v.slots, e⟩, fun b v e n _ => ?_, fun b v e _ => ⟨v, e⟩, fun b xs e => ?_, fun b v xs e => ?_, fun b ps e => ⟨#[], ?_⟩⟩ fun b v e => ?_⟩
  · have : b ≠ p := by rintro rfl; rw [hp] at n; cases n
    rw [upd_ne this]; exact n
  · rw [upd_ne (nm b _ e ⟨(fun _ z => nomatch z), (fun _ z => nomatch z)⟩)]; exact e
  · rw [upd_ne (nm b _ e ⟨(fun _ z => nomatch z), (fun _ z => nomatch z)⟩)]; exact e
  · rw [upd_ne (nm b _ e ⟨(fun _ z => nomatch z), (fun _ z => nomatch z)⟩), e]; simp
  · by_cases hb : b = p
    · subst hb
      rw [upd_same] at e
      cases e
      exact ⟨eo, all _⟩
    · rw [upd_ne hb] at e
      refine (I.hok b v e).stay (fun c w _ q => q) (fun c q => ?_) fun c xs q => ?_
      · rw [upd_ne (nm c _ q ⟨(fun _ z => nomatch z), (fun _ z => nomatch z)⟩)]; exact q
      · rw [upd_ne (nm c _ q ⟨(fun _ z => nomatch z), (fun _ z => nomatch z)⟩)]; exact q
/-- what a new list asks, locked at once -/
def lockQ (Q : VK) : VK := fun v H => ∃ p u, v = .ref p ∧ H p = some u ∧ ((∃ xs, u = .lst xs) ∨ ∃ kvs, u = .dK kvs) ∧ ∀ o, Q (.ref p) (upd H p (.frz o u))
theorem EP.lock {X : Cx} {pins : List (Addr × Obj)} {σ : L2.St} {Q : VK} {u : Value} {s : Shared} (h : EP X pins σ (lockQ Q) u s) : EP X pins σ Q u s := by
  obtain ⟨v, H, I, r, p, ho, rfl, hp, hu, q⟩ := h
  obtain ⟨o, I2⟩ := lock_inv I hp hu
  exact ⟨.ref p, _, I2, r, q o⟩
theorem OpR.lock {X : Cx} {f : Value → Value → Sem Value} {r : R2} (h : OpR X f r) : OpR X f (fun x y H Q => r x y H (lockQ Q)) := fun pins s σ H x y v u Q I rx ry q =>
  thn (h pins s σ H x y v u _ I rx ry q) fun _ _ z => EP.lock z
theorem CallR.lock {X : Cx} {f : Value} {r : List V → Hp → VK → Prop} (h : CallR X f r) : CallR X f (fun xs H Q => r xs H (lockQ Q)) := fun pins s σ H xs us Q I rv q =>
  thn (h pins s σ H xs us _ I rv q) fun _ _ z => EP.lock z
theorem MtR.lock {X : Cx} {id : String} {r : V → List V → Hp → VK → Prop} (h : MtR X id r) : MtR X id (fun x xs H Q => r x xs H (lockQ Q)) := fun pins s σ H x xs v us Q I rx rv q =>
  thn (h pins s σ H x xs v us _ I rx rv q) fun _ _ z => EP.lock z
theorem PE.lock {X : Cx} {e : Expr} {t : TE} (h : PE X e t) : PE X e (fun σ H Q => t σ H (lockQ Q)) := ⟨fun pins s σ H Q I q => thn (h.run pins s σ H _ I q) fun _ _ z => EP.lock z⟩
/-- the locked new list -/
theorem lock_new {T : Tx} {H : Hp} {M : Mem} {p : Addr} {vs : List V} {ds : List D} {Q : VK} (n : H p = none) (hm : MemOk T H M) (r : DenL T H vs ds)
    (q : ∀ v H', Stb H H' → MemOk T H' M → Den T H' v (.lst ds) → Q v H') : lockQ Q (.ref p) (upd H p (.lst vs)) := by
  refine ⟨p, _, rfl, upd_same, .inl ⟨vs, rfl⟩, fun o => ?_⟩
  rw [upd_upd]
  exact q _ _ (Stb.new n) (hm.new n) (.lst (.inl ⟨o, upd_same⟩) (r.stb (Stb.new n)))
/-- what is asked of what is there -/
def opt {α : Type} (o : Option α) (f : α → Prop) : Prop := match o with
  | some a => f a
  | none => False
theorem opt_some {α : Type} {a : α} {f : α → Prop} : opt (some a) f = f a := rfl
theorem ofOpt {α : Type} {o : Option α} {f : α → Prop} (h : opt o f) : ∃ a, o = some a ∧ f a := by
  cases o with
  | none => exact h.elim
  | some a => exact ⟨a, rfl, h⟩
/-! ### data as the library's -/
mutual
def pyD : D → Option PyData
  | .non => some .none
  | .bl b => some (.bool b)
  | .int i => some (.int i)
  | .str s => some (.str s)
  | .tup xs => (pyDs xs).map .tuple
  | .lst xs => (pyDs xs).map .list
  | .dic _ _ => none
  | .ref _ => none
  | .ty _ => none
  | .fn _ => none
  | .clo _ _ => none
def pyDs : List D → Option (List PyData)
  | [] => some []
  | d :: ds => match pyD d, pyDs ds with
    | some p, some ps => some (p :: ps)
    | _, _ => none
end
section
variable {T : Tx} {H : Hp}
mutual
theorem Den.dp : ∀ {v : V} {d : D} {p : PyData}, Den T H v d → pyD d = some p → Dp T.K H v p
  | _, _, _, .non, e => by cases e; exact .non
  | _, _, _, .bl b, e => by cases e; exact .bl b
  | _, _, _, .int i, e => by cases e; exact .int i
  | _, _, _, .str z h, e => by cases e; exact .str z
  | _, _, _, .ty n, e => by cases e
  | _, _, _, .ref a, e => by cases e
  | _, _, _, .fn j h, e => by cases e
  | _, .clo j ws, _, .clo hj h hk hc r, e => by cases e
  | _, _, _, .dic h hl r, e => by cases e
  | _, .tup ds, _, .tup h r, e => by
    have e' : (pyDs ds).map PyData.tuple = some _ := e
    cases q : pyDs ds with
    | none => rw [q] at e'; cases e'
    | some ps =>
      rw [q] at e'
      cases e'
      exact .tup h (DenL.dp r q)
  | _, .lst ds, _, .lst h r, e => by
    have e' : (pyDs ds).map PyData.list = some _ := e
    cases q : pyDs ds with
    | none => rw [q] at e'; cases e'
    | some ps =>
      rw [q] at e'
      cases e'
      exact .lst h.seq (DenL.dp r q)
theorem DenL.dp : ∀ {vs : List V} {ds : List D} {ps : List PyData}, DenL T H vs ds → pyDs ds = some ps → DpAll T.K H vs ps
  | _, _, _, .nil, e => by cases e; exact .nil
  | _, d :: ds, _, .cons h r, e => by
    have e' : (match pyD d, pyDs ds with
      | some p, some ps => some (p :: ps)
      | _, _ => none) = some _ := e
    cases q1 : pyD d with
    | none => rw [q1] at e'; cases e'
    | some p =>
      cases q2 : pyDs ds with
      | none => rw [q1, q2] at e'; cases e'
      | some ps =>
        rw [q1, q2] at e'
        cases e'
        exact .cons (Den.dp h q1) (DenL.dp r q2)
end
end
/-- a list that may change is read as it stands -/
def rdM (M : Mem) (d : D) : D := match d with
  | .ref a => match M a with
    | some (.lst ds) => .lst ds
    | _ => d
  | _ => d
/-- the items of a list -/
def lsM (M : Mem) (d : D) : Option (List D) := match d with
  | .lst ds => some ds
  | .ref a => match M a with
    | some (.lst ds) => some ds
    | _ => none
  | _ => none
def sqM (M : Mem) (d : D) : Option (List D) := match d with
  | .tup ds => some ds
  | d => lsM M d
theorem lsM_ok {T : Tx} {H : Hp} {M : Mem} {v : V} {d : D} {ds : List D} (hm : MemOk T H M) (h : Den T H v d) (e : lsM M d = some ds) : ∃ a vs, v = .ref a ∧ SqL T.K H a vs ∧ DenL T H vs ds := by
  cases h with
  | lst hs r => cases e; exact ⟨_, _, rfl, hs.seq, r⟩
  | ref a =>
    have e' : (match M a with
      | some (.lst ds) => some ds
      | _ => none) = some ds := e
    cases q : M a with
    | none => rw [q] at e'; cases e'
    | some o =>
      rw [q] at e'
      cases o with
      | lst es =>
        cases e'
        obtain ⟨vs, hh, r⟩ := hm.1 a _ q
        exact ⟨a, vs, rfl, SqL.of hh, r⟩
      | ins c fs => cases e'
  | _ => cases e
theorem sqM_ok {T : Tx} {H : Hp} {M : Mem} {v : V} {d : D} {ds : List D} (hm : MemOk T H M) (h : Den T H v d) (e : sqM M d = some ds) : ∃ a vs, v = .ref a ∧ (SqL T.K H a vs ∨ SqT T.K H a vs) ∧ DenL T H vs ds := by
  by_cases z : ∃ es, d = .tup es
  · obtain ⟨es, rfl⟩ := z
    cases e
    cases h with
    | tup hs r => exact ⟨_, _, rfl, .inr hs, r⟩
  · have e' : lsM M d = some ds := by
      cases d with
      | tup es => exact absurd ⟨es, rfl⟩ z
      | _ => exact e
    obtain ⟨a, vs, q1, q2, q3⟩ := lsM_ok hm h e'
    exact ⟨a, vs, q1, .inl q2, q3⟩
theorem rdM_dp {T : Tx} {H : Hp} {M : Mem} {v : V} {d : D} {p : PyData} (hm : MemOk T H M) (h : Den T H v d) (e : pyD (rdM M d) = some p) : Dp T.K H v p := by
  cases h with
  | ref a =>
    have e' : pyD (match M a with
      | some (.lst ds) => D.lst ds
      | _ => D.ref a) = some p := e
    cases q : M a with
    | none => rw [q] at e'; cases e'
    | some o =>
      rw [q] at e'
      cases o with
      | lst es =>
        obtain ⟨vs, hh, r⟩ := hm.1 a _ q
        have e2 : (pyDs es).map PyData.list = some p := e'
        cases q2 : pyDs es with
        | none => rw [q2] at e2; cases e2
        | some ps =>
          rw [q2] at e2
          cases e2
          exact .lst (SqL.of hh) (r.dp q2)
      | ins c fs => cases e'
  | non => exact Den.dp .non e
  | bl b => exact Den.dp (.bl b) e
  | int i => exact Den.dp (.int i) e
  | str z h => exact Den.dp (.str z h) e
  | ty n => cases e
  | fn j h => cases e
  | clo hj h hk hc r => cases e
  | tup hs r => exact Den.dp (.tup hs r) e
  | lst hs r => exact Den.dp (.lst hs r) e
  | dic hs hl r => cases e
/-! ### operators -/
def CDv (i j : Int) : Prop := j ≠ 0 ∧ Builtin.divisionGoesByPylong i j = false
def wBin (op : Operator) (x y : D) (M : Mem) (Q : QD) : Prop := match op, x, y with
  | .Add, .int i, .int j => Q (.int (i + j)) M
  | .Add, .str a, .str b => a.length + b.length ≤ sizeLine ∧ Q (.str (a ++ b)) M
  | .Add, .tup a, .tup b => a.length + b.length ≤ sizeLine ∧ Q (.tup (a ++ b)) M
  | .Sub, .int i, .int j => Q (.int (i - j)) M
  | .Mult, .int i, .int j => IntMulOk i j ∧ Q (.int (i * j)) M
  | .Mult, .ref l, .int k => opt (lsM M (.ref l)) fun xs => (-(2 ^ 63) ≤ k ∧ k < 2 ^ 63) ∧ xs.length * k.toNat ≤ sizeLine ∧ ∀ p, M p = none → Q (.ref p) (M.put p (.lst (List.replicate k.toNat xs).flatten))
  | .Add, .ref l, .ref r => opt (lsM M (.ref l)) fun xs => opt (lsM M (.ref r)) fun ys => xs.length + ys.length ≤ sizeLine ∧ ∀ p, M p = none → Q (.ref p) (M.put p (.lst (xs ++ ys)))
  | .FloorDiv, .int i, .int j => CDv i j ∧ Q (.int (i.fdiv j)) M
  | .Mod, .int i, .int j => j ≠ 0 ∧ Q (.int (i.fmod j)) M
  | .LShift, .int i, .int j => CShl i j ∧ Q (.int (i * 2 ^ j.toNat)) M
  | .Pow, .int i, .int j => CPow i j ∧ Q (.int (i ^ j.toNat)) M
  | _, _, _ => False
/-- a reading by data -/
def rD (T : Tx) (b : D → D → Mem → QD → Prop) : R2 := fun x y H k => ∃ dx dy M Q, Den T H x dx ∧ Den T H y dy ∧ MemOk T H M ∧ b dx dy M Q ∧ ∀ v H' d M', Stb H H' → MemOk T H' M' → Den T H' v d → Q d M' → k v H'
section
variable {X : Cx} {T : Tx}
theorem op_fdivD : OpR X (binaryOp .FloorDiv) (rI CDv fun i j => .int (i.fdiv j)) := opI fun _ _ _ _ _ _ _ hc q => floordiv_int hc.1 q (.inl hc.2)
theorem op_mulD : OpR X (binaryOp .Mult) (rI IntMulOk fun i j => .int (i * j)) := opI fun _ _ _ _ _ _ _ hc q => mul_int q hc
theorem den_rep {H : Hp} {vs : List V} {ds : List D} (r : DenL T H vs ds) : ∀ n : Nat, DenL T H (List.replicate n vs).flatten (List.replicate n ds).flatten
  | 0 => .nil
  | n + 1 => by
    rw [List.replicate_succ, List.replicate_succ, List.flatten_cons, List.flatten_cons]
    exact r.append (den_rep r n)
theorem lsM_ref_ok {H : Hp} {M : Mem} {a : Addr} {R : List D → Prop} (hm : MemOk T H M) (h : opt (lsM M (.ref a)) R) : ∃ ds vs, R ds ∧ H a = some (.lst vs) ∧ DenL T H vs ds := by
  unfold lsM at h
  simp only at h
  split at h
  · rename_i ds e
    obtain ⟨vs, h1, h2⟩ := hm.1 a _ e
    exact ⟨ds, vs, h, h1, h2⟩
  · exact h.elim
theorem op_binD (hT : X.K = T.K) (op : Operator) : OpR X (binaryOp op) (rD T (wBin op)) := by
  intro pins s σ H x y v u Q I rx ry ⟨dx, dy, M, QQ, hx, hy, hm, hw, kk⟩
  have fin : ∀ {w : V} {d : D}, Den T H w d → QQ d M → Q w H := fun hd q => kk _ _ _ _ (Stb.refl _) hm hd q
  cases op with
  | Add =>
    cases hx with
    | int i => cases hy with
      | int j => exact op_add pins s σ H _ _ v u Q I rx ry ⟨i, j, rfl, rfl, fin (.int _) hw⟩
      | _ => exact hw.elim
    | str a ha => cases hy with
      | str b hb => exact op_add_str pins s σ H _ _ v u Q I rx ry ⟨a, b, rfl, rfl, hw.1, fin (.str _ (by rw [Str.length_append]; exact hw.1)) hw.2⟩
      | _ => exact hw.elim
    | tup ha ra => cases hy with
      | tup hb rb =>
        rw [← hT] at ha hb
        have e1 := ra.length
        have e2 := rb.length
        refine op_catA pins s σ H _ _ v u Q I rx ry ⟨_, _, _, _, rfl, rfl, ha, hb, by rw [e1, e2]; exact hw.1, ?_⟩
        refine ⟨fun z => ?_, fun _ z => ?_, fun _ _ p n => ?_⟩
        · subst z
          cases ra
          exact fin (.tup (by rw [hT] at hb; exact hb) rb) hw.2
        · subst z
          cases rb
          have q := hw.2
          rw [List.append_nil] at q
          exact fin (.tup (by rw [hT] at ha; exact ha) ra) q
        · exact kk _ _ _ _ (Stb.new n) (hm.new n) (.tup (.inl (.inl upd_same)) ((ra.append rb).stb (Stb.new n))) hw.2
      | _ => exact hw.elim
    | ref a => cases hy with
      | ref b =>
        obtain ⟨ds, vs, h, e1, r1⟩ := lsM_ref_ok hm hw
        obtain ⟨es, ws, h, e2, r2⟩ := lsM_ref_ok hm h
        refine op_cat pins s σ H _ _ v u Q I rx ry ⟨a, b, vs, ws, rfl, rfl, e1, e2, by rw [r1.length, r2.length]; exact h.1, fun p n => ?_⟩
        exact kk _ _ _ _ (Stb.new n) (hm.put (m := .lst _) (Stb1.new n) ⟨_, upd_same, (r1.append r2).stb (Stb.new n)⟩) (.ref p) (h.2 p (hm.free n))
      | _ => exact hw.elim
    | _ => exact hw.elim
  | Sub =>
    cases hx with
    | int i => cases hy with
      | int j => exact op_sub pins s σ H _ _ v u Q I rx ry ⟨i, j, rfl, rfl, fin (.int _) hw⟩
      | _ => exact hw.elim
    | _ => exact hw.elim
  | Mult =>
    cases hx with
    | int i => cases hy with
      | int j => exact op_mulD pins s σ H _ _ v u Q I rx ry ⟨i, j, rfl, rfl, hw.1, fin (.int _) hw.2⟩
      | _ => exact hw.elim
    | ref a => cases hy with
      | int k =>
        obtain ⟨ds, vs, h, e1, r1⟩ := lsM_ref_ok hm hw
        refine op_rep pins s σ H _ _ v u Q I rx ry ⟨a, k, vs, rfl, rfl, e1, h.1.1, h.1.2, by rw [r1.length]; exact h.2.1, fun p n => ?_⟩
        exact kk _ _ _ _ (Stb.new n) (hm.put (m := .lst _) (Stb1.new n) ⟨_, upd_same, (den_rep r1 _).stb (Stb.new n)⟩) (.ref p) (h.2.2 p (hm.free n))
      | _ => exact hw.elim
    | _ => exact hw.elim
  | FloorDiv =>
    cases hx with
    | int i => cases hy with
      | int j => exact op_fdivD pins s σ H _ _ v u Q I rx ry ⟨i, j, rfl, rfl, hw.1, fin (.int _) hw.2⟩
      | _ => exact hw.elim
    | _ => exact hw.elim
  | Mod =>
    cases hx with
    | int i => cases hy with
      | int j => exact op_modN pins s σ H _ _ v u Q I rx ry ⟨i, j, rfl, rfl, hw.1, fin (.int _) hw.2⟩
      | _ => exact hw.elim
    | _ => exact hw.elim
  | LShift =>
    cases hx with
    | int i => cases hy with
      | int j => exact op_shlW pins s σ H _ _ v u Q I rx ry ⟨i, j, rfl, rfl, hw.1, fin (.int _) hw.2⟩
      | _ => exact hw.elim
    | _ => exact hw.elim
  | Pow =>
    cases hx with
    | int i => cases hy with
      | int j => exact op_pow pins s σ H _ _ v u Q I rx ry ⟨i, j, rfl, rfl, hw.1, fin (.int _) hw.2⟩
      | _ => exact hw.elim
    | _ => exact hw.elim
  | _ => exact (show False from hw).elim
end
end DL
namespace DL
open PySem PySem.Spec PyProof.Rows L2
/-! ### comparisons -/
def wEq (x y : D) (M : Mem) (k : Bool → Prop) : Prop := match x, y with
  | .int i, .int j => k (decide (i = j))
  | .str a, .str b => k (decide (a = b))
  | .bl a, .bl b => k (decide (a = b))
  | .non, .non => k true
  | x, y => ∃ p q, pyD (rdM M x) = some p ∧ pyD (rdM M y) = some q ∧ SeqAt.shaped p = true ∧ SeqAt.shaped q = true ∧ k (PyData.eqv p q)
def isNon : D → Bool
  | .non => true
  | _ => false
def wIs (x y : D) (k : Bool → Prop) : Prop := match x, y with
  | x, .non => k (isNon x)
  | .bl a, .bl b => k (decide (a = b))
  | _, _ => False
def flatD : D → Bool
  | .non => true
  | .bl _ => true
  | .int _ => true
  | .str _ => true
  | _ => false
def eqF : D → D → Bool
  | .non, .non => true
  | .bl a, .bl b => a == b
  | .bl a, .int b => (if a then 1 else 0) == b
  | .int a, .bl b => a == (if b then 1 else 0)
  | .int a, .int b => a == b
  | .str a, .str b => a == b
  | _, _ => false
def wIn (x y : D) (M : Mem) (k : Bool → Prop) : Prop := match y with
  | .str b => match x with
    | .str a => k (!(Builtin.Str.occurrences b a 0 b.length 1).isEmpty)
    | _ => False
  | y => ∃ ds, sqM M y = some ds ∧ if (flatD x && ds.all flatD) = true then k (ds.any fun d => eqF d x)
    else ∃ p ps, pyD (rdM M x) = some p ∧ pyDs ds = some ps ∧ SeqAt.shaped p = true ∧ SeqAt.shaped (.list ps) = true ∧ SeqAt.shaped (.tuple ps) = true ∧ k (ps.any fun z => PyData.eqv z p)
def wOrd (p : Int → Int → Bool) (q : Str → Str → Bool) (x y : D) (k : Bool → Prop) : Prop := match x, y with
  | .int i, .int j => k (p i j)
  | .str a, .str b => k (q a b)
  | _, _ => False
def ltS (a b : Str) : Bool := decide (a.cps.toList < b.cps.toList)
def wCmp (op : CmpOp) (x y : D) (M : Mem) (Q : QD) : Prop := match op with
  | .Eq => wEq x y M fun b => Q (.bl b) M
  | .NotEq => wEq x y M fun b => Q (.bl (!b)) M
  | .Lt => wOrd (fun i j => decide (i < j)) (fun a b => ltS a b) x y fun b => Q (.bl b) M
  | .LtE => wOrd (fun i j => decide (i ≤ j)) (fun a b => !ltS b a) x y fun b => Q (.bl b) M
  | .Gt => wOrd (fun i j => decide (j < i)) (fun a b => ltS b a) x y fun b => Q (.bl b) M
  | .GtE => wOrd (fun i j => decide (j ≤ i)) (fun a b => !ltS a b) x y fun b => Q (.bl b) M
  | .Is => wIs x y fun b => Q (.bl b) M
  | .IsNot => wIs x y fun b => Q (.bl (!b)) M
  | .In => wIn x y M fun b => Q (.bl b) M
  | .NotIn => wIn x y M fun b => Q (.bl (!b)) M
section
variable {X : Cx} {T : Tx} {H : Hp} {M : Mem}
theorem wEq_dp {x y : D} {v u : V} {k : Bool → Prop} (hm : MemOk T H M) (hx : Den T H v x) (hy : Den T H u y) (h : wEq x y M k) :
    (∃ b, scal v u = true ∧ b = decide (v = u) ∧ k b) ∨ ∃ p q, Dp T.K H v p ∧ Dp T.K H u q ∧ SeqAt.shaped p = true ∧ SeqAt.shaped q = true ∧ k (PyData.eqv p q) := by
  have gen : (∃ p q, pyD (rdM M x) = some p ∧ pyD (rdM M y) = some q ∧ SeqAt.shaped p = true ∧ SeqAt.shaped q = true ∧ k (PyData.eqv p q)) →
      (∃ b, scal v u = true ∧ b = decide (v = u) ∧ k b) ∨ ∃ p q, Dp T.K H v p ∧ Dp T.K H u q ∧ SeqAt.shaped p = true ∧ SeqAt.shaped q = true ∧ k (PyData.eqv p q) := fun ⟨p, q, e1, e2, s1, s2, kk⟩ =>
    .inr ⟨p, q, rdM_dp hm hx e1, rdM_dp hm hy e2, s1, s2, kk⟩
  cases hx with
  | non => cases hy with
    | non => exact .inl ⟨true, rfl, by simp, h⟩
    | _ => exact gen h
  | int i => cases hy with
    | int j => exact .inl ⟨_, rfl, by simp, h⟩
    | _ => exact gen h
  | bl i => cases hy with
    | bl j => exact .inl ⟨_, rfl, by simp, h⟩
    | _ => exact gen h
  | str i _ => cases hy with
    | str j _ => exact .inl ⟨_, rfl, by simp, h⟩
    | _ => exact gen h
  | _ => cases hy <;> exact gen h
theorem flat_den {v : V} {d : D} (h : Den T H v d) (f : flatD d = true) : flatV v = true := by
  cases h <;> first | rfl | cases f
theorem flat_dens : ∀ {vs : List V} {ds : List D}, DenL T H vs ds → ds.all flatD = true → vs.all flatV = true
  | _, _, .nil, _ => rfl
  | _, _, .cons h r, f => by
    rw [List.all_cons, Bool.and_eq_true] at f
    rw [List.all_cons, flat_den h f.1, flat_dens r f.2] <;> rfl
theorem eqF_den {v u : V} {d e : D} (h : Den T H v d) (g : Den T H u e) (f : flatD d = true) (f2 : flatD e = true) : eqV v u = eqF d e := by
  cases h <;> cases g <;> first | rfl | exact absurd f Bool.false_ne_true | exact absurd f2 Bool.false_ne_true
theorem inF_den {u : V} {e : D} (g : Den T H u e) (f2 : flatD e = true) : ∀ {vs : List V} {ds : List D}, DenL T H vs ds → ds.all flatD = true → inV u vs = ds.any fun d => eqF d e
  | _, _, .nil, _ => rfl
  | _, _, .cons h r, f => by
    rw [List.all_cons, Bool.and_eq_true] at f
    have ih := inF_den g f2 r f.2
    unfold inV at ih ⊢
    rw [List.any_cons, List.any_cons, ih, eqF_den h g f.1 f2]
/-- x in y, x not in y: y a list or a tuple of data of any depth -/
theorem in_deep {pins : List (Addr × Obj)} {σ : L2.St} {s : Shared} {a : Addr} {vs : List V} {ds : List D} {p : PyData} {ps : List PyData} {x : V} {v u : Value} {Q : Value → Shared → Prop} (neg : Bool) (hu : X.A.units + 65 < cLine) (I : Inv X pins σ H s) (rx : RelV x v) (ry : RelV (.ref a) u)
    (hq : SqL X.K H a vs ∨ SqT X.K H a vs) (hx : Dp X.K H x p) (hr : DpAll X.K H vs ps) (h1 : SeqAt.shaped p = true) (h2 : SeqAt.shaped (.list ps) = true) (h3 : SeqAt.shaped (.tuple ps) = true) (q : Q (.bool (if neg = true then !ps.any fun z => PyData.eqv z p else ps.any fun z => PyData.eqv z p)) s) :
    wpAny (model X.prog X.w) X.A (compareOp (if neg = true then .NotIn else .In) v u) Q X.xe s := by
  obtain ⟨as, r1⟩ := Dp.reads I p x v hx rx
  have room := room_in_shaped (xs := ps) h1 hu
  rcases hq with hq | hq
  · obtain ⟨bs, r2⟩ := Dp.reads I (.list ps) _ u (.lst hq hr) ry
    cases neg with
    | false => exact SeqAt.in_list_reads r2 r1 (SeqAt.canLay_of_shaped h2) (SeqAt.canLay_of_shaped h1) room q
    | true => exact SeqAt.notIn_list_reads r2 r1 (SeqAt.canLay_of_shaped h2) (SeqAt.canLay_of_shaped h1) room q
  · obtain ⟨bs, r2⟩ := Dp.reads I (.tuple ps) _ u (.tup hq hr) ry
    cases neg with
    | false => exact SeqAt.in_tuple_reads r2 r1 (SeqAt.canLay_of_shaped h3) (SeqAt.canLay_of_shaped h1) room q
    | true => exact SeqAt.notIn_tuple_reads r2 r1 (SeqAt.canLay_of_shaped h3) (SeqAt.canLay_of_shaped h1) room q
theorem op_cmpD (hT : X.K = T.K) (hu : X.A.units + 65 < cLine) (op : CmpOp) : OpR X (compareOp op) (rD T (wCmp op)) := by
  intro pins s σ H x y v u Q I rx ry ⟨dx, dy, M, QQ, hx, hy, hm, hw, kk⟩
  have fin : ∀ {b : Bool}, QQ (.bl b) M → Q (.bl b) H := fun q => kk _ _ _ _ (Stb.refl _) hm (.bl _) q
  have ord : ∀ {p : Int → Int → Bool} {q : Str → Str → Bool}, wOrd p q dx dy (fun b => QQ (.bl b) M) → (∃ i j, x = .int i ∧ y = .int j ∧ Q (.bl (p i j)) H) ∨ ∃ i j, x = .str i ∧ y = .str j ∧ Q (.bl (q i j)) H := fun {p q} h => by
    cases hx with
    | int i => cases hy with
      | int j => exact .inl ⟨i, j, rfl, rfl, fin h⟩
      | _ => exact h.elim
    | str i _ => cases hy with
      | str j _ => exact .inr ⟨i, j, rfl, rfl, fin h⟩
      | _ => exact h.elim
    | _ => exact (show False from h).elim
  cases op with
  | Eq =>
    rcases wEq_dp (k := fun b => QQ (.bl b) M) hm hx hy hw with ⟨b, h1, rfl, h3⟩ | ⟨p, q, h1, h2, h3, h4, h5⟩
    · exact op_eq pins s σ H _ _ v u Q I rx ry ⟨h1, fin h3⟩
    · exact op_eqD (by omega) pins s σ H _ _ v u Q I rx ry ⟨p, q, by rw [hT]; exact h1, by rw [hT]; exact h2, h3, h4, fin h5⟩
  | NotEq =>
    rcases wEq_dp (k := fun b => QQ (.bl (!b)) M) hm hx hy hw with ⟨b, h1, rfl, h3⟩ | ⟨p, q, h1, h2, h3, h4, h5⟩
    · exact op_ne pins s σ H _ _ v u Q I rx ry ⟨h1, fin h3⟩
    · exact op_neD (by omega) pins s σ H _ _ v u Q I rx ry ⟨p, q, by rw [hT]; exact h1, by rw [hT]; exact h2, h3, h4, fin h5⟩
  | Lt =>
    rcases ord hw with h | h
    · exact op_lt pins s σ H _ _ v u Q I rx ry h
    · exact op_lt_str pins s σ H _ _ v u Q I rx ry h
  | LtE =>
    rcases ord hw with h | h
    · exact op_le pins s σ H _ _ v u Q I rx ry h
    · exact op_le_str pins s σ H _ _ v u Q I rx ry h
  | Gt =>
    rcases ord hw with h | h
    · exact op_gt pins s σ H _ _ v u Q I rx ry h
    · exact op_gt_str pins s σ H _ _ v u Q I rx ry h
  | GtE =>
    rcases ord hw with h | h
    · exact op_ge pins s σ H _ _ v u Q I rx ry h
    · exact op_ge_str pins s σ H _ _ v u Q I rx ry h
  | Is =>
    cases hy with
    | non =>
      refine op_isN pins s σ H _ _ v u Q I rx ry ⟨rfl, ?_⟩
      cases hx <;> exact fin hw
    | bl b => cases hx with
      | bl a => exact op_isBl pins s σ H _ _ v u Q I rx ry ⟨a, b, rfl, rfl, fin hw⟩
      | _ => exact (show False from hw).elim
    | _ => cases hx <;> exact (show False from hw).elim
  | IsNot =>
    cases hy with
    | non =>
      refine op_notN pins s σ H _ _ v u Q I rx ry ⟨rfl, ?_⟩
      cases hx <;> exact fin hw
    | bl b => cases hx with
      | bl a => exact op_notBl pins s σ H _ _ v u Q I rx ry ⟨a, b, rfl, rfl, fin hw⟩
      | _ => exact (show False from hw).elim
    | _ => cases hx <;> exact (show False from hw).elim
  | In =>
    by_cases z : ∃ b, dy = .str b
    · obtain ⟨b, rfl⟩ := z
      cases hy
      cases hx with
      | str a _ => exact op_in_str pins s σ H _ _ v u Q I rx ry ⟨a, b, rfl, rfl, fin hw⟩
      | _ => exact (show False from hw).elim
    · have hw' : ∃ ds, sqM M dy = some ds ∧ if (flatD dx && ds.all flatD) = true then QQ (.bl ((ds.any fun d => eqF d dx))) M
          else ∃ p ps, pyD (rdM M dx) = some p ∧ pyDs ds = some ps ∧ SeqAt.shaped p = true ∧ SeqAt.shaped (.list ps) = true ∧ SeqAt.shaped (.tuple ps) = true ∧ QQ (.bl ((ps.any fun z => PyData.eqv z p))) M := by
        cases dy <;> first | exact absurd ⟨_, rfl⟩ z | exact hw
      obtain ⟨ds, h1, h2⟩ := hw'
      obtain ⟨a, vs, rfl, hq, r⟩ := sqM_ok hm hy h1
      rw [← hT] at hq
      split at h2
      · rename_i hf
        obtain ⟨f1, f2⟩ := Bool.and_eq_true_iff.mp hf
        refine op_in_seq pins s σ H _ _ v u Q I rx ry ⟨a, vs, rfl, hq, flat_den hx f1, flat_dens r f2, ?_⟩
        rw [if_neg Bool.false_ne_true, inF_den hx f1 r f2]
        exact fin h2
      · obtain ⟨p, ps, e1, e2, e3, e4, e5, h3⟩ := h2
        exact in_deep (ds := ds) false hu I rx ry hq (by rw [hT]; exact rdM_dp hm hx e1) (by rw [hT]; exact r.dp e2) e3 e4 e5 ⟨.bl _, H, I, rfl, fin h3⟩
  | NotIn =>
    by_cases z : ∃ b, dy = .str b
    · obtain ⟨b, rfl⟩ := z
      cases hy
      cases hx with
      | str a _ => exact L2.op_notin_str pins s σ H _ _ v u Q I rx ry ⟨a, b, rfl, rfl, fin hw⟩
      | _ => exact (show False from hw).elim
    · have hw' : ∃ ds, sqM M dy = some ds ∧ if (flatD dx && ds.all flatD) = true then QQ (.bl (!(ds.any fun d => eqF d dx))) M
          else ∃ p ps, pyD (rdM M dx) = some p ∧ pyDs ds = some ps ∧ SeqAt.shaped p = true ∧ SeqAt.shaped (.list ps) = true ∧ SeqAt.shaped (.tuple ps) = true ∧ QQ (.bl (!(ps.any fun z => PyData.eqv z p))) M := by
        cases dy <;> first | exact absurd ⟨_, rfl⟩ z | exact hw
      obtain ⟨ds, h1, h2⟩ := hw'
      obtain ⟨a, vs, rfl, hq, r⟩ := sqM_ok hm hy h1
      rw [← hT] at hq
      split at h2
      · rename_i hf
        obtain ⟨f1, f2⟩ := Bool.and_eq_true_iff.mp hf
        refine op_notIn_seq pins s σ H _ _ v u Q I rx ry ⟨a, vs, rfl, hq, flat_den hx f1, flat_dens r f2, ?_⟩
        rw [if_pos rfl, inF_den hx f1 r f2]
        exact fin h2
      · obtain ⟨p, ps, e1, e2, e3, e4, e5, h3⟩ := h2
        exact in_deep (ds := ds) true hu I rx ry hq (by rw [hT]; exact rdM_dp hm hx e1) (by rw [hT]; exact r.dp e2) e3 e4 e5 ⟨.bl _, H, I, rfl, fin h3⟩
end
/-! ### truth -/
def dTru (d : D) (M : Mem) (k : Bool → Prop) : Prop := match d with
  | .non => k false
  | .bl b => k b
  | .int i => k (i != 0)
  | .str s => k ((s.length : Int) != 0)
  | .tup xs => k (!xs.isEmpty)
  | .lst xs => k (!xs.isEmpty)
  | .ref a => ∃ ds, M a = some (.lst ds) ∧ k (!ds.isEmpty)
  | _ => False
theorem DenL.isEmpty {T : Tx} {H : Hp} {vs : List V} {ds : List D} (r : DenL T H vs ds) : vs.isEmpty = ds.isEmpty := by cases r <;> rfl
theorem tru_den {T : Tx} {H : Hp} {M : Mem} {v : V} {d : D} {k : Bool → Prop} (hm : MemOk T H M) (h : Den T H v d) (w : dTru d M k) : ∃ b, TruV T.K v H b ∧ k b := by
  cases h with
  | non => exact ⟨_, rfl, w⟩
  | bl b => exact ⟨_, rfl, w⟩
  | int i => exact ⟨_, rfl, w⟩
  | str s hs => exact ⟨_, ⟨hs, rfl⟩, w⟩
  | tup hs r => exact ⟨_, .inr (.inl ⟨_, hs, by rw [r.isEmpty]⟩), w⟩
  | lst hs r => exact ⟨_, .inl ⟨_, hs.seq, by rw [r.isEmpty]⟩, w⟩
  | ref a =>
    obtain ⟨ds, e, w⟩ := w
    obtain ⟨vs, e1, r⟩ := hm.1 a _ e
    exact ⟨_, .inl ⟨_, SqL.of e1, by rw [r.isEmpty]⟩, w⟩
  | ty n => exact w.elim
  | fn j h => exact w.elim
  | clo hj h hk hc r => exact w.elim
  | dic hs hl r => exact w.elim
/-! ### items, slices -/
def wIdx (x y : D) (M : Mem) (Q : QD) : Prop := match y with
  | .int i => match x with
    | .str s => opt (atI s.cps.toList i) fun c => Q (.str ⟨#[c]⟩) M
    | x => opt (sqM M x) fun ds => opt (atI ds i) fun d => Q d M
  | _ => False
theorem DenL.atI {T : Tx} {H : Hp} {vs : List V} {ds : List D} {i : Int} {d : D} (r : DenL T H vs ds) (e : L2.atI ds i = some d) : ∃ v, L2.atI vs i = some v ∧ Den T H v d := by
  unfold L2.atI at e ⊢
  rw [r.length]
  cases q : ixN ds.length i with
  | none => rw [q] at e; cases e
  | some j =>
    rw [q] at e
    exact r.get e
theorem sgn_len (c : Nat) : (⟨#[c]⟩ : Str).length ≤ sizeLine := by
  rw [sizeLine_eq]
  show 1 ≤ 16777216
  decide
theorem ix_D {X : Cx} {T : Tx} (hT : X.K = T.K) : IxR X (rD T wIdx) := by
  have key : ∀ {H : Hp} {x y : V} {Q : VK}, rD T wIdx x y H Q → rIx X.K x y H Q := by
    rintro H x y Q ⟨dx, dy, M, QQ, hx, hy, hm, hw, kk⟩
    have fin : ∀ {w : V} {d : D}, Den T H w d → QQ d M → Q w H := fun hd q => kk _ _ _ _ (Stb.refl _) hm hd q
    cases hy with
    | int i =>
      by_cases z : ∃ b, dx = .str b
      · obtain ⟨b, rfl⟩ := z
        cases hx with
        | str _ hs =>
          obtain ⟨c, q, hw'⟩ := ofOpt hw
          exact .inr (.inr ⟨b, i, c, rfl, rfl, hs, q, fin (.str _ (sgn_len c)) hw'⟩)
      · have hw' : opt (sqM M dx) fun ds => opt (L2.atI ds i) fun d => QQ d M := by cases dx <;> first | exact absurd ⟨_, rfl⟩ z | exact hw
        obtain ⟨ds, q, hw'⟩ := ofOpt hw'
        obtain ⟨d, q2, hw2⟩ := ofOpt hw'
        obtain ⟨a, vs, rfl, hq, r⟩ := sqM_ok hm hx q
        obtain ⟨w, e1, e2⟩ := r.atI q2
        rw [← hT] at hq
        rcases hq with hq | hq
        · exact .inl ⟨a, vs, i, w, rfl, rfl, hq, e1, fin e2 hw2⟩
        · exact .inr (.inl ⟨a, vs, i, w, rfl, rfl, hq, e1, fin e2 hw2⟩)
    | _ => exact (show False from hw).elim
  intro value slice pins s σ H x y v u Q I rx ry q hs
  exact ix_seq value slice pins s σ H x y v u Q I rx ry (key q) hs
def cutD (xs : List D) (lo hi : Option Int) : List D := (xs.drop (HT.sIx xs.length 0 lo)).take (HT.sIx xs.length xs.length hi - HT.sIx xs.length 0 lo)
def wSlc (x : D) (lo hi : Option Int) (M : Mem) (Q : QD) : Prop := match x with
  | .str s => Q (.str (cutS s lo hi)) M
  | .tup xs => Q (.tup (cutD xs lo hi)) M
  | x => opt (lsM M x) fun ds => Q (.lst (cutD ds lo hi)) M
theorem DenL.cut {T : Tx} {H : Hp} {vs : List V} {ds : List D} (r : DenL T H vs ds) (lo hi : Option Int) : DenL T H (cutV vs lo hi) (cutD ds lo hi) := by
  unfold cutV cutD
  rw [r.length]
  exact (r.drop _).take _
def rSD (T : Tx) : V → Option Int → Option Int → Hp → VK → Prop := fun x lo hi H k => ∃ dx M Q, Den T H x dx ∧ MemOk T H M ∧ wSlc dx lo hi M Q ∧ ∀ v H' d M', Stb H H' → MemOk T H' M' → Den T H' v d → Q d M' → k v H'
theorem _root_.L2.SlR.lock {X : Cx} {r : V → Option Int → Option Int → Hp → VK → Prop} (h : SlR X r) : SlR X (fun x lo hi H Q => r x lo hi H (lockQ Q)) := fun pins s σ H x v vl vu lo hi sl Q I rx hs pl pu q => by
  obtain ⟨T, id, h1, h2, h3⟩ := h pins s σ H x v vl vu lo hi sl _ I rx hs pl pu q
  exact ⟨T, id, h1, h2, thn h3 fun _ _ z => EP.lock z⟩
theorem sl_D {X : Cx} {T : Tx} (hT : X.K = T.K) : SlR X (rSD T) := by
  have key : ∀ {H : Hp} {x : V} {lo hi : Option Int} {Q : VK}, rSD T x lo hi H Q → rSlS x lo hi H Q ∨ rSlA X.K x lo hi H Q ∨ rSlL X.K x lo hi H (lockQ Q) := by
    rintro H x lo hi Q ⟨dx, M, QQ, hx, hm, hw, kk⟩
    have fin : ∀ {w : V} {d : D}, Den T H w d → QQ d M → Q w H := fun hd q => kk _ _ _ _ (Stb.refl _) hm hd q
    by_cases z : ∃ b, dx = .str b
    · obtain ⟨b, rfl⟩ := z
      cases hx with
      | str _ hs => exact .inl ⟨b, rfl, hs, fin (.str _ (Nat.le_trans (cutS_length _ _ _) hs)) hw⟩
    · by_cases z2 : ∃ b, dx = .tup b
      · obtain ⟨ds, rfl⟩ := z2
        cases hx with
        | @tup a vs _ hs r =>
          refine .inr (.inl ⟨a, vs, rfl, by rw [hT]; exact hs, fun w => ?_, fun w p n => ?_⟩)
          · have e : cutD ds lo hi = ds := by
              unfold cutD
              rw [← r.length, w.1, w.2]
              rw [r.length]
              simp
            exact fin (.tup hs (by rw [e]; exact r)) hw
          · exact kk _ _ _ _ (Stb.new n) (hm.new n) (.tup (.inl (.inl upd_same)) ((r.cut lo hi).stb (Stb.new n))) hw
      · have hw' : opt (lsM M dx) fun ds => QQ (.lst (cutD ds lo hi)) M := by cases dx <;> first | exact absurd ⟨_, rfl⟩ z | exact absurd ⟨_, rfl⟩ z2 | exact hw
        obtain ⟨ds, q, hw'⟩ := ofOpt hw'
        obtain ⟨a, vs, rfl, hq, r⟩ := lsM_ok hm hx q
        refine .inr (.inr ⟨a, vs, rfl, by rw [hT]; exact hq, fun p n => ?_⟩)
        exact lock_new n hm (r.cut lo hi) fun v H' s1 m1 d1 => kk _ _ _ _ s1 m1 d1 hw'
  intro pins s σ H x v vl vu lo hi sl Q I rx hs pl pu q
  rcases key q with q | q | q
  · exact sl_str pins s σ H x v vl vu lo hi sl Q I rx hs pl pu q
  · exact sl_tupA pins s σ H x v vl vu lo hi sl Q I rx hs pl pu q
  · exact SlR.lock sl_list pins s σ H x v vl vu lo hi sl Q I rx hs pl pu q
end DL
namespace DL
open PySem PySem.Spec PyProof.Rows L2
/-! ### built-ins by their names -/
inductive Bi where
  | len | abs | int | isinst | list | tuple | max | min | sum | all | any | bool | ord
  deriving DecidableEq
def Bi.nm : Bi → Str
  | .len => "len" | .abs => "abs" | .int => "int" | .isinst => "isinstance" | .list => "list" | .tuple => "tuple" | .max => "max" | .min => "min" | .sum => "sum" | .all => "all" | .any => "any" | .bool => "bool" | .ord => "ord"
def Bi.ofName (x : Str) : Option Bi := [Bi.len, .abs, .int, .isinst, .list, .tuple, .max, .min, .sum, .all, .any, .bool, .ord].find? fun b => decide (b.nm = x)
/-- a built-in function, or a built-in type -/
def Bi.val : Bi → Value
  | .len => .builtin "len" | .abs => .builtin "abs" | .int => .type "int" | .isinst => .builtin "isinstance" | .list => .type "list" | .tuple => .type "tuple" | .max => .builtin "max" | .min => .builtin "min"
  | .sum => .builtin "sum" | .all => .builtin "all" | .any => .builtin "any" | .bool => .type "bool" | .ord => .builtin "ord"
theorem Bi.boot (b : Bi) : bootBuiltins b.nm = some b.val := by cases b <;> decide +kernel
theorem Bi.ofName_ok {x : Str} {b : Bi} (h : Bi.ofName x = some b) : x = b.nm := by
  have := List.find?_some h
  exact (of_decide_eq_true this).symm
/-- the name of a value's type -/
def tyM (M : Mem) (d : D) : Option String := match d with
  | .non => some "NoneType"
  | .bl _ => some "bool"
  | .int _ => some "int"
  | .str _ => some "str"
  | .tup _ => some "tuple"
  | .lst _ => some "list"
  | .dic _ _ => some "dict"
  | .ref a => match M a with
    | some (.lst _) => some "list"
    | _ => none
  | _ => none
theorem tyM_ok {T : Tx} {H : Hp} {M : Mem} {v : V} {d : D} {t : String} (hm : MemOk T H M) (h : Den T H v d) (e : tyM M d = some t) : TyX T.K H v (.type t) := by
  cases h with
  | non => cases e; exact .base .non
  | bl b => cases e; exact .base (.bl b)
  | int i => cases e; exact .base (.int i)
  | str s _ => cases e; exact .base (.str s)
  | tup hs r =>
    cases e
    rcases hs with (h | ⟨o, h⟩) | ⟨o, its, n, hk, hc, _⟩
    · exact .base (.tup h)
    · exact .fTuple h
    · exact .kTuple hk hc
  | lst hs r =>
    cases e
    rcases hs with ⟨o, h⟩ | ⟨o, its, n, hk, hc, _⟩
    · exact .base (.frz h)
    · exact .kList hk hc
  | dic hs hl r =>
    cases e
    obtain ⟨o, h⟩ := hs
    exact .fDict h
  | ref a =>
    have e' : (match M a with
      | some (.lst _) => some "list"
      | _ => none) = some t := e
    cases q : M a with
    | none => rw [q] at e'; cases e'
    | some o =>
      rw [q] at e'
      cases o with
      | lst ds =>
        cases e'
        obtain ⟨vs, h1, _⟩ := hm.1 a _ q
        exact .base (.lst h1)
      | ins c fs => cases e'
  | ty n => cases e
  | fn j h => cases e
  | clo hj h hk hc r => cases e
def intsD : List D → Option (List Int)
  | [] => some []
  | .int i :: r => (intsD r).map (i :: ·)
  | _ :: _ => none
def blsD : List D → Option (List Bool)
  | [] => some []
  | .bl i :: r => (blsD r).map (i :: ·)
  | _ :: _ => none
theorem intsD_ok {T : Tx} {H : Hp} : ∀ {vs : List V} {ds : List D} {ns : List Int}, DenL T H vs ds → intsD ds = some ns → vs = ns.map V.int
  | _, _, _, .nil, e => by cases e; rfl
  | _, .int i :: r, ns, .cons h t, e => by
    have e' : (intsD r).map (i :: ·) = some ns := e
    cases q : intsD r with
    | none => rw [q] at e'; cases e'
    | some ms =>
      rw [q] at e'
      cases e'
      cases h
      rw [intsD_ok t q] <;> rfl
  | _, .non :: r, _, .cons h t, e => by cases e
  | _, .bl _ :: r, _, .cons h t, e => by cases e
  | _, .str _ :: r, _, .cons h t, e => by cases e
  | _, .tup _ :: r, _, .cons h t, e => by cases e
  | _, .lst _ :: r, _, .cons h t, e => by cases e
  | _, .dic _ _ :: r, _, .cons h t, e => by cases e
  | _, .ref _ :: r, _, .cons h t, e => by cases e
  | _, .ty _ :: r, _, .cons h t, e => by cases e
  | _, .fn _ :: r, _, .cons h t, e => by cases e
  | _, .clo _ _ :: r, _, .cons h t, e => by cases e
theorem blsD_ok {T : Tx} {H : Hp} : ∀ {vs : List V} {ds : List D} {ns : List Bool}, DenL T H vs ds → blsD ds = some ns → vs = ns.map V.bl
  | _, _, _, .nil, e => by cases e; rfl
  | _, .bl i :: r, ns, .cons h t, e => by
    have e' : (blsD r).map (i :: ·) = some ns := e
    cases q : blsD r with
    | none => rw [q] at e'; cases e'
    | some ms =>
      rw [q] at e'
      cases e'
      cases h
      rw [blsD_ok t q] <;> rfl
  | _, .non :: r, _, .cons h t, e => by cases e
  | _, .int _ :: r, _, .cons h t, e => by cases e
  | _, .str _ :: r, _, .cons h t, e => by cases e
  | _, .tup _ :: r, _, .cons h t, e => by cases e
  | _, .lst _ :: r, _, .cons h t, e => by cases e
  | _, .dic _ _ :: r, _, .cons h t, e => by cases e
  | _, .ref _ :: r, _, .cons h t, e => by cases e
  | _, .ty _ :: r, _, .cons h t, e => by cases e
  | _, .fn _ :: r, _, .cons h t, e => by cases e
  | _, .clo _ _ :: r, _, .cons h t, e => by cases e
def wBlt (b : Bi) (l : List D) (M : Mem) (Q : QD) : Prop := match b, l with
  | .len, [.str s] => Q (.int s.length) M
  | .len, [x] => opt (sqM M x) fun ds => Q (.int ds.length) M
  | .abs, [.int i] => Q (.int (if i < 0 then -i else i)) M
  | .int, [.int i] => Q (.int i) M
  | .int, [.bl k] => Q (.int (if k then 1 else 0)) M
  | .isinst, [x, .ty n] => opt (tyM M x) fun t => opt (kitB t n) fun k => Q (.bl k) M
  | .list, [x] => opt (sqM M x) fun ds => Q (.lst ds) M
  | .tuple, [x] => opt (sqM M x) fun ds => Q (.tup ds) M
  | .max, [.int i, .int j] => Q (.int (if j > i then j else i)) M
  | .min, [.int i, .int j] => Q (.int (if j < i then j else i)) M
  | .sum, [x] => opt (lsM M x) fun ds => opt (intsD ds) fun ns => Q (.int ns.sum) M
  | .all, [x] => opt (lsM M x) fun ds => opt (blsD ds) fun ns => Q (.bl (ns.all id)) M
  | .any, [x] => opt (lsM M x) fun ds => opt (blsD ds) fun ns => Q (.bl (ns.any id)) M
  | .bool, [.int i] => Q (.bl (i != 0)) M
  | .bool, [.bl k] => Q (.bl k) M
  | .ord, [.str s] => s.length = 1 ∧ Q (.int (s.cps.getD 0 0 : Nat)) M
  | _, _ => False
def rLD (T : Tx) (b : List D → Mem → QD → Prop) : List V → Hp → VK → Prop := fun xs H k => ∃ ds M Q, DenL T H xs ds ∧ MemOk T H M ∧ b ds M Q ∧ ∀ v H' d M', Stb H H' → MemOk T H' M' → Den T H' v d → Q d M' → k v H'
section
variable {X : Cx} {T : Tx}
theorem DenL.one {H : Hp} {xs : List V} {d : D} (r : DenL T H xs [d]) : ∃ v, xs = [v] ∧ Den T H v d := by
  cases r with
  | cons h t => cases t; exact ⟨_, rfl, h⟩
theorem DenL.two {H : Hp} {xs : List V} {d e : D} (r : DenL T H xs [d, e]) : ∃ v u, xs = [v, u] ∧ Den T H v d ∧ Den T H u e := by
  cases r with
  | cons h t => cases t with
    | cons h2 t => cases t; exact ⟨_, _, rfl, h, h2⟩
theorem call_bi (hT : X.K = T.K) (hc : X.calm = true) (b : Bi) : CallR X b.val (rLD T (wBlt b)) := by
  rintro pins s σ H xs us Q I rv ⟨ds, M, QQ, rd, hm, hw, kk⟩
  have fin : ∀ {w : V} {d : D}, Den T H w d → QQ d M → Q w H := fun hd q => kk _ _ _ _ (Stb.refl _) hm hd q
  have sq : ∀ {x : D} {v : V} {ds : List D}, Den T H v x → sqM M x = some ds → ∃ a vs, v = .ref a ∧ (SqL X.K H a vs ∨ SqT X.K H a vs) ∧ DenL T H vs ds := fun hd e => by rw [hT]; exact sqM_ok hm hd e
  have ls : ∀ {x : D} {v : V} {ds : List D}, Den T H v x → lsM M x = some ds → ∃ a vs, v = .ref a ∧ SqL X.K H a vs ∧ DenL T H vs ds := fun hd e => by rw [hT]; exact lsM_ok hm hd e
  cases b with
  | len =>
    rcases ds with _ | ⟨d, _ | ⟨e, r⟩⟩
    · exact (show False from hw).elim
    · obtain ⟨v, rfl, hd⟩ := rd.one
      by_cases z : ∃ b, d = .str b
      · obtain ⟨b, rfl⟩ := z
        cases hd with
        | str _ hs => exact call_len pins s σ H _ us Q I rv ⟨_, _, rfl, ⟨hs, rfl⟩, fin (.int _) hw⟩
      · have hw' : opt (sqM M d) fun ds => QQ (.int ds.length) M := by cases d <;> first | exact absurd ⟨_, rfl⟩ z | exact hw
        obtain ⟨es, q, hq⟩ := ofOpt hw'
        obtain ⟨a, vs, rfl, h1, r⟩ := sq hd q
        refine call_len pins s σ H _ us Q I rv ⟨.ref a, vs.length, rfl, ?_, ?_⟩
        · rcases h1 with h1 | h1
          · exact .inl ⟨vs, h1, rfl⟩
          · exact .inr ⟨vs, h1, rfl⟩
        · rw [r.length]
          exact fin (.int _) hq
    · cases d <;> exact (show False from hw).elim
  | abs =>
    rcases ds with _ | ⟨d, _ | ⟨e, r⟩⟩
    · exact (show False from hw).elim
    · obtain ⟨v, rfl, hd⟩ := rd.one
      cases hd with
      | int i => exact call_abs pins s σ H _ us Q I rv ⟨i, rfl, fin (.int _) hw⟩
      | _ => exact (show False from hw).elim
    · cases d <;> exact (show False from hw).elim
  | int =>
    rcases ds with _ | ⟨d, _ | ⟨e, r⟩⟩
    · exact (show False from hw).elim
    · obtain ⟨v, rfl, hd⟩ := rd.one
      cases hd with
      | int i => exact call_int1 pins s σ H _ us Q I rv (.inl ⟨i, rfl, fin (.int _) hw⟩)
      | bl i => exact call_int1 pins s σ H _ us Q I rv (.inr ⟨i, rfl, fin (.int _) hw⟩)
      | _ => exact (show False from hw).elim
    · cases d <;> exact (show False from hw).elim
  | bool =>
    rcases ds with _ | ⟨d, _ | ⟨e, r⟩⟩
    · exact (show False from hw).elim
    · obtain ⟨v, rfl, hd⟩ := rd.one
      cases hd with
      | int i => exact call_bool1 pins s σ H _ us Q I rv (.inl ⟨i, rfl, fin (.bl _) hw⟩)
      | bl i => exact call_bool1 pins s σ H _ us Q I rv (.inr ⟨i, rfl, fin (.bl _) hw⟩)
      | _ => exact (show False from hw).elim
    · cases d <;> exact (show False from hw).elim
  | ord =>
    rcases ds with _ | ⟨d, _ | ⟨e, r⟩⟩
    · exact (show False from hw).elim
    · obtain ⟨v, rfl, hd⟩ := rd.one
      cases hd with
      | str i hs => exact call_ord pins s σ H _ us Q I rv ⟨i, rfl, hw.1, fin (.int _) hw.2⟩
      | _ => exact (show False from hw).elim
    · cases d <;> exact (show False from hw).elim
  | isinst =>
    rcases ds with _ | ⟨d, _ | ⟨e, _ | ⟨f, r⟩⟩⟩
    · exact (show False from hw).elim
    · cases d <;> exact (show False from hw).elim
    · obtain ⟨v, u, rfl, hd, he⟩ := rd.two
      cases he with
      | ty n =>
        obtain ⟨t, q1, hw⟩ := ofOpt (show opt (tyM M d) fun t => opt (kitB t n) fun k => QQ (.bl k) M from by cases d <;> exact hw)
        obtain ⟨k, q2, hw⟩ := ofOpt hw
        exact call_isi pins s σ H _ us Q I rv ⟨v, .ty n, .type t, .type n, k, rfl, .ty n, by rw [hT]; exact tyM_ok hm hd q1, kit_ty q2, fin (.bl _) hw⟩
      | _ => cases d <;> exact (show False from hw).elim
    · cases d <;> cases e <;> exact (show False from hw).elim
  | list =>
    rcases ds with _ | ⟨d, _ | ⟨e, r⟩⟩
    · exact (show False from hw).elim
    · obtain ⟨v, rfl, hd⟩ := rd.one
      obtain ⟨es, q, hq⟩ := ofOpt (show opt (sqM M d) fun ds => QQ (.lst ds) M from by cases d <;> exact hw)
      obtain ⟨a, vs, rfl, h1, r⟩ := sq hd q
      refine CallR.lock call_list_of pins s σ H _ us Q I rv ⟨a, vs, rfl, h1, fun p n => ?_⟩
      exact lock_new n hm r fun v H' s1 m1 d1 => kk _ _ _ _ s1 m1 d1 hq
    · cases d <;> exact (show False from hw).elim
  | tuple =>
    rcases ds with _ | ⟨d, _ | ⟨e, r⟩⟩
    · exact (show False from hw).elim
    · obtain ⟨v, rfl, hd⟩ := rd.one
      obtain ⟨es, q, hq⟩ := ofOpt (show opt (sqM M d) fun ds => QQ (.tup ds) M from by cases d <;> exact hw)
      obtain ⟨a, vs, rfl, h1, r⟩ := sq hd q
      refine call_tuple_of pins s σ H _ us Q I rv ⟨a, vs, rfl, ?_⟩
      rcases h1 with h1 | h1
      · exact .inl ⟨h1, fun p n => kk _ _ _ _ (Stb.new n) (hm.new n) (.tup (.inl (.inl upd_same)) (r.stb (Stb.new n))) hq⟩
      · exact .inr ⟨h1, fin (.tup (by rw [← hT]; exact h1) r) hq⟩
    · cases d <;> exact (show False from hw).elim
  | max =>
    rcases ds with _ | ⟨d, _ | ⟨e, _ | ⟨f, r⟩⟩⟩
    · exact (show False from hw).elim
    · cases d <;> exact (show False from hw).elim
    · obtain ⟨v, u, rfl, hd, he⟩ := rd.two
      cases hd with
      | int i => cases he with
        | int j => exact call_max2 hc pins s σ H _ us Q I rv ⟨i, j, rfl, fin (.int _) hw⟩
        | _ => exact (show False from hw).elim
      | _ => exact (show False from hw).elim
    · cases d <;> cases e <;> exact (show False from hw).elim
  | min =>
    rcases ds with _ | ⟨d, _ | ⟨e, _ | ⟨f, r⟩⟩⟩
    · exact (show False from hw).elim
    · cases d <;> exact (show False from hw).elim
    · obtain ⟨v, u, rfl, hd, he⟩ := rd.two
      cases hd with
      | int i => cases he with
        | int j => exact call_min2 hc pins s σ H _ us Q I rv ⟨i, j, rfl, fin (.int _) hw⟩
        | _ => exact (show False from hw).elim
      | _ => exact (show False from hw).elim
    · cases d <;> cases e <;> exact (show False from hw).elim
  | sum =>
    rcases ds with _ | ⟨d, _ | ⟨e, r⟩⟩
    · exact (show False from hw).elim
    · obtain ⟨v, rfl, hd⟩ := rd.one
      obtain ⟨es, q, hq⟩ := ofOpt (show opt (lsM M d) fun ds => opt (intsD ds) fun ns => QQ (.int ns.sum) M from by cases d <;> exact hw)
      obtain ⟨ns, q2, hq⟩ := ofOpt hq
      obtain ⟨a, vs, rfl, h1, r⟩ := ls hd q
      have e := intsD_ok r q2
      subst e
      exact cr_sum hc pins s σ H _ us Q I rv ⟨a, ns, rfl, h1, fin (.int _) hq⟩
    · cases d <;> exact (show False from hw).elim
  | all =>
    rcases ds with _ | ⟨d, _ | ⟨e, r⟩⟩
    · exact (show False from hw).elim
    · obtain ⟨v, rfl, hd⟩ := rd.one
      obtain ⟨es, q, hq⟩ := ofOpt (show opt (lsM M d) fun ds => opt (blsD ds) fun ns => QQ (.bl (ns.all id)) M from by cases d <;> exact hw)
      obtain ⟨ns, q2, hq⟩ := ofOpt hq
      obtain ⟨a, vs, rfl, h1, r⟩ := ls hd q
      have e := blsD_ok r q2
      subst e
      exact cr_all hc pins s σ H _ us Q I rv ⟨a, ns, rfl, h1, fin (.bl _) hq⟩
    · cases d <;> exact (show False from hw).elim
  | any =>
    rcases ds with _ | ⟨d, _ | ⟨e, r⟩⟩
    · exact (show False from hw).elim
    · obtain ⟨v, rfl, hd⟩ := rd.one
      obtain ⟨es, q, hq⟩ := ofOpt (show opt (lsM M d) fun ds => opt (blsD ds) fun ns => QQ (.bl (ns.any id)) M from by cases d <;> exact hw)
      obtain ⟨ns, q2, hq⟩ := ofOpt hq
      obtain ⟨a, vs, rfl, h1, r⟩ := ls hd q
      have e := blsD_ok r q2
      subst e
      exact cr_any hc pins s σ H _ us Q I rv ⟨a, ns, rfl, h1, fin (.bl _) hq⟩
    · cases d <;> exact (show False from hw).elim
end
@[simp] theorem kit_t1 : kitB "int" "int" = some true := by decide +kernel
@[simp] theorem kit_t2 : kitB "bool" "int" = some true := by decide +kernel
@[simp] theorem kit_t3 : kitB "str" "int" = some false := by decide +kernel
@[simp] theorem kit_t4 : kitB "NoneType" "int" = some false := by decide +kernel
@[simp] theorem kit_t5 : kitB "tuple" "int" = some false := by decide +kernel
@[simp] theorem kit_t6 : kitB "list" "int" = some false := by decide +kernel
@[simp] theorem kit_b1 : kitB "int" "bool" = some false := by decide +kernel
@[simp] theorem kit_b2 : kitB "bool" "bool" = some true := by decide +kernel
@[simp] theorem kit_b3 : kitB "str" "bool" = some false := by decide +kernel
@[simp] theorem kit_b4 : kitB "NoneType" "bool" = some false := by decide +kernel
@[simp] theorem kit_b5 : kitB "tuple" "bool" = some false := by decide +kernel
@[simp] theorem kit_b6 : kitB "list" "bool" = some false := by decide +kernel
@[simp] theorem kit_s1 : kitB "int" "str" = some false := by decide +kernel
@[simp] theorem kit_s2 : kitB "bool" "str" = some false := by decide +kernel
@[simp] theorem kit_s3 : kitB "str" "str" = some true := by decide +kernel
@[simp] theorem kit_s4 : kitB "NoneType" "str" = some false := by decide +kernel
@[simp] theorem kit_s5 : kitB "tuple" "str" = some false := by decide +kernel
@[simp] theorem kit_s6 : kitB "list" "str" = some false := by decide +kernel
@[simp] theorem kit_u1 : kitB "int" "tuple" = some false := by decide +kernel
@[simp] theorem kit_u2 : kitB "bool" "tuple" = some false := by decide +kernel
@[simp] theorem kit_u3 : kitB "str" "tuple" = some false := by decide +kernel
@[simp] theorem kit_u4 : kitB "NoneType" "tuple" = some false := by decide +kernel
@[simp] theorem kit_u5 : kitB "tuple" "tuple" = some true := by decide +kernel
@[simp] theorem kit_u6 : kitB "list" "tuple" = some false := by decide +kernel
@[simp] theorem kit_l1 : kitB "int" "list" = some false := by decide +kernel
@[simp] theorem kit_l2 : kitB "bool" "list" = some false := by decide +kernel
@[simp] theorem kit_l3 : kitB "str" "list" = some false := by decide +kernel
@[simp] theorem kit_l4 : kitB "NoneType" "list" = some false := by decide +kernel
@[simp] theorem kit_l5 : kitB "tuple" "list" = some false := by decide +kernel
@[simp] theorem kit_l6 : kitB "list" "list" = some true := by decide +kernel
end DL
namespace DL
open PySem PySem.Spec PyProof.Rows L2
/-! ### shapes of expressions that the rules ask for -/
def notStar : Expr → Bool
  | .Starred _ _ => false
  | _ => true
def notComp : Expr → Bool
  | .ListComp .. => false
  | .SetComp .. => false
  | .DictComp .. => false
  | _ => true
def notSet : Expr → Bool
  | .Set .. => false
  | _ => true
def notCall : Expr → Bool
  | .Call .. => false
  | _ => true
theorem star_ok {e : Expr} {es : List Expr} {env : Env} (h : notStar e = true) : starEach (e :: es) env = (false, eval e env) :: starEach es env := by
  cases e <;> first | rfl | cases h
def noStars (es : List Expr) : Bool := es.all notStar
theorem stars_ok {env : Env} {pos : Pos} : ∀ {es : List Expr}, noStars es = true → (backTo pos (starEach es env)).any (·.1) = false
  | [], _ => rfl
  | e :: es, h => by
    have h2 : (notStar e && noStars es) = true := h
    rw [Bool.and_eq_true] at h2
    rw [star_ok h2.1]
    show (false || (backTo pos (starEach es env)).any (·.1)) = false
    rw [stars_ok h2.2] <;> rfl
theorem marks_ok {e : Expr} {op : CmpOp} (h : notSet e = true) : behindInMarks op e = false := by
  cases e <;> first | rfl | cases h
theorem base_ok {e : Expr} {f : Str} {env : Env} (h : notCall e = true) : attributeBase e f env (eval e env) = eval e env := by
  cases e <;> first | rfl | cases h
theorem swaps_ok {e : Expr} {t : Option Expr} {l : Nat} {env : Env} (h : notComp e = true) : swapsWith e t l env = pure false := by
  cases e <;> first | rfl | cases h
theorem fold_ok {e : Expr} {env : Env} (h : notSet e = true) : ∀ x, foldedSetIterable e env x = pure x := by
  intro x
  cases e <;> first | rfl | cases h
def notSlice : Expr → Bool
  | .Slice .. => false
  | _ => true
theorem plainIx {e : Expr} (h : notSlice e = true) : PlainIx e := by
  intro o i
  cases e <;> first | rfl | cases h
/-! ### targets -/
mutual
inductive Tg where
  | nm (i : Nat)
  | tup (ts : Tgs)
inductive Tgs where
  | nil
  | cons (t : Tg) (ts : Tgs)
end
mutual
def Tg.slots : Tg → List Nat
  | .nm i => [i]
  | .tup ts => ts.slots
def Tgs.slots : Tgs → List Nat
  | .nil => []
  | .cons t ts => t.slots ++ ts.slots
end
def Tgs.len : Tgs → Nat
  | .nil => 0
  | .cons _ ts => ts.len + 1
mutual
/-- what a target does to the slots; M: for a list that may change -/
def wTg : Tg → D → Mem → Ev → (Ev → Prop) → Prop
  | .nm i, d, _, δ, k => k (δ.set i (some d))
  | .tup ts, d, M, δ, k => opt (sqM M d) fun ds => ds.length = ts.len ∧ wTgs ts ds M δ k
def wTgs : Tgs → List D → Mem → Ev → (Ev → Prop) → Prop
  | .nil, ds, _, δ, k => match ds with
    | [] => k δ
    | _ :: _ => False
  | .cons t ts, ds, M, δ, k => match ds with
    | [] => False
    | d :: r => wTg t d M δ fun δ1 => wTgs ts r M δ1 k
end
/-- slots that a target has not are as they were -/
def SameBut (is : List Nat) (σ σ' : L2.St) : Prop := ∀ ws : List Nat, (∀ i ∈ is, i ∈ ws) → wipe σ' ws = wipe σ ws
theorem wipe_get {σ : L2.St} {j : Nat} : ∀ {ws : List Nat}, (wipe σ ws)[j]? = if j ∈ ws then (if j < σ.length then some none else none) else σ[j]?
  | [] => by simp [wipe]
  | v :: vs => by
    have ih := wipe_get (σ := σ) (j := j) (ws := vs)
    show ((wipe σ vs).set v none)[j]? = _
    by_cases e : v = j
    · subst e
      by_cases hv : v < σ.length
      · rw [List.getElem?_set_self (by rw [wipe_length]; exact hv)]
        simp [hv]
      · rw [List.getElem?_eq_none (by rw [List.length_set, wipe_length]; omega)]
        simp [hv]
    · rw [List.getElem?_set_ne e, ih]
      have : (j ∈ v :: vs) ↔ j ∈ vs := by
        rw [List.mem_cons]
        exact ⟨fun h => h.elim (fun z => absurd z.symm e) _root_.id, .inr⟩
      simp only [this]
theorem SameBut.refl (is : List Nat) (σ : L2.St) : SameBut is σ σ := fun _ _ => rfl
theorem SameBut.set (i : Nat) (v : Option V) (σ : L2.St) : SameBut [i] σ (σ.set i v) := fun ws h => by
  refine List.ext_getElem? fun j => ?_
  rw [wipe_get, wipe_get, List.length_set]
  by_cases e : j ∈ ws
  · rw [if_pos e, if_pos e]
  · rw [if_neg e, if_neg e, List.getElem?_set_ne]
    rintro rfl
    exact e (h _ (by simp))
theorem SameBut.trans {is js : List Nat} {σ σ1 σ2 : L2.St} (a : SameBut is σ σ1) (b : SameBut js σ1 σ2) : SameBut (is ++ js) σ σ2 := fun ws h =>
  (b ws fun i hi => h i (List.mem_append_right _ hi)).trans (a ws fun i hi => h i (List.mem_append_left _ hi))
def liftG (T : Tx) (H0 : Hp) (t : Tg) : TG := fun v σ H k => ∃ d δ M Q, Rl T H0 σ H δ M ∧ Den T H v d ∧ wTg t d M δ Q ∧ ∀ σ' δ', Rl T H0 σ' H δ' M → SameBut t.slots σ σ' → Q δ' → k σ' H
def liftGs (T : Tx) (H0 : Hp) (t : Tgs) : TGs := fun vs σ H k => ∃ ds δ M Q, Rl T H0 σ H δ M ∧ DenL T H vs ds ∧ wTgs t ds M δ Q ∧ ∀ σ' δ', Rl T H0 σ' H δ' M → SameBut t.slots σ σ' → Q δ' → k σ' H
section
variable {X : Cx} {T : Tx} {H0 : Hp}
theorem _root_.L2.PG.weak {e : Expr} {t t' : TG} (h : PG X e t) (w : ∀ v σ H k, t' v σ H k → t v σ H k) : PG X e t' := ⟨fun p s σ H v u k I r q => h.run p s σ H v u k I r (w v σ H k q)⟩
theorem _root_.L2.PG.or {e : Expr} {t t' : TG} (h : PG X e t) (h' : PG X e t') : PG X e (fun v σ H k => t v σ H k ∨ t' v σ H k) := ⟨fun p s σ H v u k I r q => q.elim (h.run p s σ H v u k I r) (h'.run p s σ H v u k I r)⟩
theorem _root_.L2.PGs.weak {e : List Expr} {t t' : TGs} (h : PGs X e t) (w : ∀ v σ H k, t' v σ H k → t v σ H k) : PGs X e t' := ⟨fun p s σ H v u k I r q => h.run p s σ H v u k I r (w v σ H k q)⟩
theorem tg_name {i : Nat} {x : Str} {pos : Pos} (hN : X.N.Nodup) (hi : X.N[i]? = some x) (hx : Loc X.env.scope x) (hf : X.fn x = true ∨ X.env.scope.names.lookup x = some .local) : PG X (.Name x pos) (liftG T H0 (.nm i)) :=
  (pg_name hN hi hx hf).weak fun v σ H k ⟨d, δ, M, Q, rl, hd, hw, kk⟩ => kk _ _ ⟨rl.base, rl.env.set hd i, rl.mem⟩ (SameBut.set i _ σ) hw
theorem tgs_nil : PGs X [] (liftGs T H0 .nil) := pgs_nil.weak fun vs σ H k ⟨ds, δ, M, Q, rl, hd, hw, kk⟩ => by
  cases ds with
  | nil => cases hd; exact ⟨rfl, kk _ _ rl (SameBut.refl _ _) hw⟩
  | cons d r => exact (show False from hw).elim
theorem tgs_cons {e : Expr} {es : List Expr} {t : Tg} {ts : Tgs} (h1 : PG X e (liftG T H0 t)) (h2 : PGs X es (liftGs T H0 ts)) (hs : (assignEach (e :: es) X.env).map (·.2) = assign e X.env :: (assignEach es X.env).map (·.2)) : PGs X (e :: es) (liftGs T H0 (.cons t ts)) :=
  (pgs_cons h1 h2 hs).weak fun vs σ H k ⟨ds, δ, M, Q, rl, hd, hw, kk⟩ => by
    cases ds with
    | nil => exact (show False from hw).elim
    | cons d r =>
      cases hd with
      | cons h r' => exact ⟨_, _, rfl, d, δ, M, _, rl, h, hw, fun σ1 δ1 rl1 s1 q1 => ⟨r, δ1, M, Q, rl1, r', q1, fun σ2 δ2 rl2 s2 q2 => kk _ _ rl2 (s1.trans s2) q2⟩⟩
theorem tg_tup {es : List Expr} {k : Nat} {pos : Pos} {ts : Tgs} (hT : X.K = T.K) (hc : X.calm = true) (h : PGs X es (liftGs T H0 ts)) (hn : (assignEach es X.env).length = ts.len) (hst : (assignEach es X.env).findIdx? (·.1) = none) : PG X (.Tuple es k pos) (liftG T H0 (.tup ts)) :=
  ((pg_tup (n := ts.len) hc h hn hst).or (pg_lst (n := ts.len) hc h hn hst)).weak fun v σ H kk ⟨d, δ, M, Q, rl, hd, hw, kf⟩ => by
    obtain ⟨ds, e, hl, hw⟩ := ofOpt (show opt (sqM M d) fun ds => ds.length = ts.len ∧ wTgs ts ds M δ Q from hw)
    obtain ⟨a, vs, rfl, hq, r⟩ := sqM_ok rl.mem hd e
    rw [← hT] at hq
    have fin : liftGs T H0 ts vs σ H kk := ⟨ds, δ, M, Q, rl, r, hw, kf⟩
    rcases hq with hq | hq
    · exact .inr ⟨a, vs, rfl, hq, by rw [r.length]; exact hl, fin⟩
    · exact .inl ⟨a, vs, rfl, hq, by rw [r.length]; exact hl, fin⟩
end
end DL
namespace DL
open PySem PySem.Spec PyProof.Rows L2
/-! ### the small language -/
mutual
inductive Ir where
  | var (i : Nat)
  | cst (d : D)
  | bin (op : Operator) (a b : Ir)
  | neg (a : Ir)
  | not (a : Ir)
  | and (a b : Ir)
  | or (a b : Ir)
  | cmp (op : CmpOp) (a b : Ir)
  | chn (op op' : CmpOp) (a b c : Ir)
  | chn3 (o1 o2 o3 : CmpOp) (a b c d : Ir)
  | dgv (kvs : List (Int × Int)) (i : Nat)
  | ite (c a b : Ir)
  | tup (as : Irs)
  | lst (as : Irs)
  | mls (as : Irs)
  | idx (a b : Ir)
  | slc (a : Ir) (lo hi : Io)
  | call (j : Nat) (as : Irs)
  | calv (i : Nat) (as : Irs)
  | blt (b : Bi) (as : Irs)
  | app (a b : Ir)
  | bits (a : Ir)
  | lc (it : It) (t : Tg) (c e : Ir) (ws : List Nat)
  | lc2 (it : It) (t : Tg) (it1 : It) (t1 : Tg) (e : Ir) (ws ws1 : List Nat)
inductive Irs where
  | nil
  | cons (a : Ir) (as : Irs)
inductive Io where
  | none
  | some (a : Ir)
inductive It where
  | rng1 (a : Ir)
  | rng2 (a b : Ir)
  | rng3 (a b c : Ir)
  | val (a : Ir)
end
def W0 : WD := fun _ _ _ _ => False
/-- what is walked -/
def itM (M : Mem) (d : D) : Option (List D) := match d with
  | .str s => some (s.cps.toList.map fun c => .str ⟨#[c]⟩)
  | d => sqM M d
/-- the walked list stands -/
def chk (d : D) (ds : List D) (M : Mem) : Prop := match d with
  | .ref a => M a = some (.lst ds)
  | _ => True
def rngD (lo c : Int) (n : Nat) : List D := (List.range n).map fun (i : Nat) => .int (lo + i * c)
def wNeg (x : D) (M : Mem) (Q : QD) : Prop := match x with
  | .int i => Q (.int (-i)) M
  | _ => False
def wBits (x : D) (M : Mem) (Q : QD) : Prop := match x with
  | .int i => Q (.int (Builtin.Int.intBits i : Nat)) M
  | _ => False
def wApp (x y : D) (M : Mem) (Q : QD) : Prop := match x with
  | .ref a => opt (M a) fun o => match o with
    | .lst ds => ds.length < sizeLine ∧ Q .non (M.put a (.lst (ds ++ [y])))
    | .ins _ _ => False
  | _ => False
def wChn (x : D) (f : Bool → Prop) : Prop := match x with
  | .bl k => f k
  | _ => False
def fnOf : D → Option (Nat × List D)
  | .fn j => some (j, [])
  | .clo j ws => some (j, ws)
  | _ => none
def small62 (n : Int) : Prop := -(2 ^ 62) ≤ n ∧ n < 2 ^ 62
def rg1 (x : D) (k : List D → Prop) : Prop := match x with
  | .int n => small62 n ∧ k (rngD 0 1 n.toNat)
  | _ => False
def rg2 (x y : D) (k : List D → Prop) : Prop := match x, y with
  | .int n, .int m => (small62 n ∧ small62 m) ∧ k (rngD n 1 (m - n).toNat)
  | _, _ => False
def rg3 (x y z : D) (k : List D → Prop) : Prop := match x, y, z with
  | .int n, .int m, .int c => ∃ t, RgC n m c t ∧ k (rngD n c t)
  | _, _, _ => False
/-- a comprehension's turns; the list so far stands at p -/
def lcGo (step : D → Mem → (Option D → Mem → Prop) → Prop) (ch : Mem → Prop) (p : Addr) (Q : List D → Mem → Prop) : List D → List D → Mem → Prop
  | [], acc, M => ch M ∧ M p = some (.lst acc) ∧ Q acc (M.del p)
  | d :: ds, acc, M => ch M ∧ step d M fun r M' => match r with
    | none => lcGo step ch p Q ds acc M'
    | some y => M' p = some (.lst acc) ∧ acc.length < sizeLine ∧ lcGo step ch p Q ds (acc ++ [y]) (M'.put p (.lst (acc ++ [y])))
/-- .. of two clauses: the second one's turns -/
def lcIn (step : D → Mem → (D → Mem → Prop) → Prop) (ch : Mem → Prop) (p : Addr) (K : List D → Mem → Prop) : List D → List D → Mem → Prop
  | [], acc, M => ch M ∧ K acc M
  | d :: ds, acc, M => ch M ∧ step d M fun y M' => M' p = some (.lst acc) ∧ acc.length < sizeLine ∧ lcIn step ch p K ds (acc ++ [y]) (M'.put p (.lst (acc ++ [y])))
def lcOut (inner : D → List D → Mem → (List D → Mem → Prop) → Prop) (ch : Mem → Prop) (p : Addr) (Q : List D → Mem → Prop) : List D → List D → Mem → Prop
  | [], acc, M => ch M ∧ M p = some (.lst acc) ∧ Q acc (M.del p)
  | d :: ds, acc, M => ch M ∧ inner d acc M fun acc' M' => lcOut inner ch p Q ds acc' M'
/-- what a display of whole numbers has under n -/
def dgV (kvs : List (Int × Int)) (x : D) (M : Mem) (Q : QD) : Prop := match x with
  | .int n => opt (valV (mergeK [] (kvs.map fun e => ((Sum.inl e.1 : Key), V.int e.2))) (.inl n)) fun v => match v with
    | .int u => Q (.int u) M
    | _ => False
  | _ => False
mutual
def dE (Γ : List DSp) : Ir → WD → WpE
  | .var i, _, δ, M, Q => opt δ[i]? fun o => opt o fun d => Q d M
  | .cst d, _, _, M, Q => Q d M
  | .bin op a b, W, δ, M, Q => dE Γ a W δ M fun x M1 => dE Γ b W δ M1 fun y M2 => wBin op x y M2 Q
  | .neg a, W, δ, M, Q => dE Γ a W δ M fun x M1 => wNeg x M1 Q
  | .not a, W, δ, M, Q => dE Γ a W δ M fun x M1 => dTru x M1 fun k => Q (.bl (!k)) M1
  | .and a b, W, δ, M, Q => dE Γ a W δ M fun x M1 => dTru x M1 fun k => if k = true then dE Γ b W δ M1 Q else Q x M1
  | .or a b, W, δ, M, Q => dE Γ a W δ M fun x M1 => dTru x M1 fun k => if k = true then Q x M1 else dE Γ b W δ M1 Q
  | .cmp op a b, W, δ, M, Q => dE Γ a W δ M fun x M1 => dE Γ b W δ M1 fun y M2 => wCmp op x y M2 Q
  | .chn op op' a b c, W, δ, M, Q => dE Γ a W δ M fun x M1 => dE Γ b W δ M1 fun y M2 => wCmp op x y M2 fun z M3 => wChn z fun k => if k = true then dE Γ c W δ M3 fun u M4 => wCmp op' y u M4 Q else Q (.bl false) M3
  | .chn3 o1 o2 o3 a b c d, W, δ, M, Q => dE Γ a W δ M fun x M1 => dE Γ b W δ M1 fun y M2 => wCmp o1 x y M2 fun z M3 => wChn z fun k => if k = true then dE Γ c W δ M3 fun u M4 => wCmp o2 y u M4 fun z' M5 => wChn z' fun k' => if k' = true then dE Γ d W δ M5 fun v M6 => wCmp o3 u v M6 Q else Q (.bl false) M5 else Q (.bl false) M3
  | .dgv kvs i, _, δ, M, Q => opt δ[i]? fun o => opt o fun d => dgV kvs d M Q
  | .ite c a b, W, δ, M, Q => dT Γ c W δ M fun k M1 => if k = true then dE Γ a W δ M1 Q else dE Γ b W δ M1 Q
  | .tup as, W, δ, M, Q => dA Γ as W δ M fun ds M1 => ds.length ≤ 4096 ∧ Q (.tup ds) M1
  | .lst as, W, δ, M, Q => dA Γ as W δ M fun ds M1 => ds.length ≤ 4096 ∧ Q (.lst ds) M1
  | .mls as, W, δ, M, Q => dA Γ as W δ M fun ds M1 => ds.length ≤ 4096 ∧ ∀ p, M1 p = none → Q (.ref p) (M1.put p (.lst ds))
  | .idx a b, W, δ, M, Q => dE Γ a W δ M fun x M1 => dE Γ b W δ M1 fun y M2 => wIdx x y M2 Q
  | .slc a lo hi, W, δ, M, Q => dE Γ a W δ M fun x M1 => dO Γ lo W δ M1 fun l M2 => dO Γ hi W δ M2 fun u M3 => wSlc x l u M3 Q
  | .call j as, W, δ, M, Q => dA Γ as W δ M fun ds M1 => opt Γ[j]? fun φ => φ ds M1 Q fun x fs M' => W x fs δ M'
  | .calv i as, W, δ, M, Q => opt δ[i]? fun o => opt o fun f => opt (fnOf f) fun j => opt Γ[j.1]? fun φ => dA Γ as W δ M fun ds M1 => φ (ds ++ j.2) M1 Q fun x fs M' => W x fs δ M'
  | .blt b as, W, δ, M, Q => dA Γ as W δ M fun ds M1 => wBlt b ds M1 Q
  | .app a b, W, δ, M, Q => dE Γ a W δ M fun x M1 => opt (lsM M1 x) fun _ => dE Γ b W δ M1 fun y M2 => wApp x y M2 Q
  | .bits a, W, δ, M, Q => dE Γ a W δ M fun x M1 => wBits x M1 Q
  | .lc it t c e ws, W, δ, M, Q => dI Γ it W δ M fun ds ch M1 => ∀ p, M1 p = none → lcGo (fun d M k => wTg t d M (wipeD δ ws) fun δ1 => dT Γ c W0 δ1 M fun b M2 => if b = true then dE Γ e W0 δ1 M2 fun y M3 => k (some y) M3 else k none M2) ch p (fun es M3 => Q (.lst es) M3) ds [] (M1.put p (.lst []))
  | .lc2 it t it1 t1 e ws ws1, W, δ, M, Q => dI Γ it W δ M fun ds ch M1 => ∀ p, M1 p = none → lcOut (fun d acc M K => wTg t d M (wipeD δ ws) fun δ1 => dI Γ it1 W0 δ1 M fun ds1 ch1 M2 => lcIn (fun d1 M k => wTg t1 d1 M (wipeD δ1 ws1) fun δ2 => dE Γ e W0 δ2 M k) ch1 p K ds1 acc M2) ch p (fun es M3 => Q (.lst es) M3) ds [] (M1.put p (.lst []))
def dT (Γ : List DSp) : Ir → WD → WpT
  | .not a, W, δ, M, Q => dT Γ a W δ M fun k M1 => Q (!k) M1
  | .and a b, W, δ, M, Q => dT Γ a W δ M fun k M1 => if k = true then dT Γ b W δ M1 Q else Q false M1
  | .or a b, W, δ, M, Q => dT Γ a W δ M fun k M1 => if k = true then Q true M1 else dT Γ b W δ M1 Q
  | .cmp op a b, W, δ, M, Q => dE Γ a W δ M fun x M1 => dE Γ b W δ M1 fun y M2 => wCmp op x y M2 fun z M3 => wChn z fun k => Q k M3
  | .chn op op' a b c, W, δ, M, Q => dE Γ a W δ M fun x M1 => dE Γ b W δ M1 fun y M2 => wCmp op x y M2 fun z M3 => wChn z fun k => if k = true then dE Γ c W δ M3 fun u M4 => wCmp op' y u M4 fun z' M5 => wChn z' fun k' => Q k' M5 else Q false M3
  | .var i, _, δ, M, Q => opt δ[i]? fun o => opt o fun d => dTru d M fun k => Q k M
  | .cst d, _, _, M, Q => dTru d M fun k => Q k M
  | .bin op a b, W, δ, M, Q => dE Γ a W δ M fun x M1 => dE Γ b W δ M1 fun y M2 => wBin op x y M2 fun z M3 => dTru z M3 fun k => Q k M3
  | .idx a b, W, δ, M, Q => dE Γ a W δ M fun x M1 => dE Γ b W δ M1 fun y M2 => wIdx x y M2 fun z M3 => dTru z M3 fun k => Q k M3
  | .call j as, W, δ, M, Q => dA Γ as W δ M fun ds M1 => opt Γ[j]? fun φ => φ ds M1 (fun z M3 => dTru z M3 fun k => Q k M3) fun x fs M' => W x fs δ M'
  | .calv i as, W, δ, M, Q => opt δ[i]? fun o => opt o fun f => opt (fnOf f) fun j => opt Γ[j.1]? fun φ => dA Γ as W δ M fun ds M1 => φ (ds ++ j.2) M1 (fun z M3 => dTru z M3 fun k => Q k M3) fun x fs M' => W x fs δ M'
  | .blt b as, W, δ, M, Q => dA Γ as W δ M fun ds M1 => wBlt b ds M1 fun z M3 => dTru z M3 fun k => Q k M3
  | _, _, _, _, _ => False
def dA (Γ : List DSp) : Irs → WD → WpA
  | .nil, _, _, M, Q => Q [] M
  | .cons a as, W, δ, M, Q => dE Γ a W δ M fun d M1 => dA Γ as W δ M1 fun ds M2 => Q (d :: ds) M2
def dO (Γ : List DSp) : Io → WD → Ev → Mem → (Option Int → Mem → Prop) → Prop
  | .none, _, _, M, Q => Q none M
  | .some a, W, δ, M, Q => dE Γ a W δ M fun d M1 => match d with
    | .int i => Q (some i) M1
    | _ => False
def dI (Γ : List DSp) : It → WD → Ev → Mem → (List D → (Mem → Prop) → Mem → Prop) → Prop
  | .rng1 a, W, δ, M, k => dE Γ a W δ M fun x M1 => rg1 x fun ds => k ds (fun _ => True) M1
  | .rng2 a b, W, δ, M, k => dE Γ a W δ M fun x M1 => dE Γ b W δ M1 fun y M2 => rg2 x y fun ds => k ds (fun _ => True) M2
  | .rng3 a b c, W, δ, M, k => dE Γ a W δ M fun x M1 => dE Γ b W δ M1 fun y M2 => dE Γ c W δ M2 fun z M3 => rg3 x y z fun ds => k ds (fun _ => True) M3
  | .val a, W, δ, M, k => dE Γ a W δ M fun x M1 => opt (itM M1 x) fun ds => ds.length ≤ sizeLine → k ds (chk x ds) M1
end
end DL
namespace DL
open PySem PySem.Spec PyProof.Rows L2
section
variable {X : Cx} {T : Tx} {H0 : Hp} {a b c : Expr} {wa wb wc : WpE} {ta tb : WpT} {pos : Pos}
/-! ### readings put together -/
theorem two_E {f : D → D → Mem → QD → Prop} {σ : L2.St} {H : Hp} {k : VK} (h : liftE T H0 (fun δ M Q => wa δ M fun x M1 => wb δ M1 fun y M2 => f x y M2 Q) σ H k) : tOp (rD T f) (liftE T H0 wa) (liftE T H0 wb) σ H k := by
  obtain ⟨δ, M, Q, rl, hw, kk⟩ := h
  refine ⟨δ, M, _, rl, hw, fun v H1 d M1 r1 s1 d1 q1 => ⟨δ, M1, _, r1, q1, fun u H2 e M2 r2 s2 d2 q2 => ⟨d, e, M2, Q, d1.stb s2, d2, r2.mem, q2, fun w H3 f M3 s3 m3 d3 q3 => ?_⟩⟩⟩
  exact kk w H3 f M3 (r2.to s3 m3) ((s1.trans s2).trans s3) d3 q3
theorem one_E {f : D → Mem → QD → Prop} {σ : L2.St} {H : Hp} {k : VK} (h : liftE T H0 (fun δ M Q => wa δ M fun x M1 => f x M1 Q) σ H k) :
    liftE T H0 wa σ H fun v H1 => ∃ d M Q, Den T H1 v d ∧ MemOk T H1 M ∧ f d M Q ∧ ∀ w H' e M', Stb H1 H' → MemOk T H' M' → Den T H' w e → Q e M' → k w H' := by
  obtain ⟨δ, M, Q, rl, hw, kk⟩ := h
  exact ⟨δ, M, _, rl, hw, fun v H1 d M1 r1 s1 d1 q1 => ⟨d, M1, Q, d1, r1.mem, q1, fun w H' e M' s m dd q => kk w H' e M' (r1.to s m) (s1.trans s) dd q⟩⟩
/-! ### names and constants -/
theorem de_var {i : Nat} {x : Str} (hN : X.N[i]? = some x) (hv : Vis X.env.scope x) (hd : (x == ("__debug__" : Str)) = false) (hcd : (x == ("__classdict__" : Str)) = false) : PE X (.Name x pos) (liftE T H0 fun δ M Q => opt δ[i]? fun o => opt o fun d => Q d M) :=
  (pe_var hN hv hd hcd).weak fun σ H k ⟨δ, M, Q, rl, hw, kk⟩ => by
    obtain ⟨o, e1, hw⟩ := ofOpt hw
    obtain ⟨d, rfl, hw⟩ := ofOpt hw
    obtain ⟨v, e2, hd⟩ := rl.env.get i d e1
    exact ⟨v, e2, kk v H d M rl (Stb.refl _) hd hw⟩
theorem de_cst {e : Expr} {v : V} {d : D} (h : PE X e (tC v)) (hd : ∀ H, Den T H v d) : PE X e (liftE T H0 fun δ M Q => Q d M) :=
  h.weak fun σ H k ⟨δ, M, Q, rl, hw, kk⟩ => kk v H d M rl (Stb.refl _) (hd H) hw
/-! ### operators -/
theorem de_bin {op : Operator} (hT : X.K = T.K) (ha : PE X a (liftE T H0 wa)) (hb : PE X b (liftE T H0 wb)) : PE X (.BinOp a op b pos) (liftE T H0 fun δ M Q => wa δ M fun x M1 => wb δ M1 fun y M2 => wBin op x y M2 Q) :=
  (pe_op (op_binD hT op) ha hb).weak fun _ _ _ h => two_E h
theorem de_cmp {op : CmpOp} (hT : X.K = T.K) (hu : X.A.units + 65 < cLine) (hm : behindInMarks op b = false) (ha : PE X a (liftE T H0 wa)) (hb : PE X b (liftE T H0 wb)) :
    PE X (.Compare a [op] [b] pos) (liftE T H0 fun δ M Q => wa δ M fun x M1 => wb δ M1 fun y M2 => wCmp op x y M2 Q) :=
  (pe_cmpR (op_cmpD hT hu op) ha hb hm).weak fun _ _ _ h => two_E h
theorem de_neg (ha : PE X a (liftE T H0 wa)) : PE X (.UnaryOp .USub a pos) (liftE T H0 fun δ M Q => wa δ M fun x M1 => wNeg x M1 Q) :=
  (pe_un un_neg ha).weak fun σ H k h => by
    obtain ⟨δ, M, Q, rl, hw, kk⟩ := h
    refine ⟨δ, M, _, rl, hw, fun v H1 d M1 r1 s1 d1 q1 => ?_⟩
    cases d1 with
    | int i => exact ⟨i, rfl, kk _ _ _ _ r1 s1 (.int _) q1⟩
    | _ => exact (show False from q1).elim
theorem de_not (hT : X.K = T.K) (ha : PE X a (liftE T H0 wa)) : PE X (.UnaryOp .Not a pos) (liftE T H0 fun δ M Q => wa δ M fun x M1 => dTru x M1 fun k => Q (.bl (!k)) M1) :=
  (pe_notT ha).weak fun σ H k h => by
    obtain ⟨δ, M, Q, rl, hw, kk⟩ := h
    refine ⟨δ, M, _, rl, hw, fun v H1 d M1 r1 s1 d1 q1 => ?_⟩
    obtain ⟨b, t, q⟩ := tru_den r1.mem d1 q1
    exact ⟨b, by rw [hT]; exact t, kk _ _ _ _ r1 s1 (.bl _) q⟩
theorem de_and {rest : List Expr} (hT : X.K = T.K) (ha : PE X a (liftE T H0 wa)) (hb : PE X (.BoolOp .And (b :: rest) pos) (liftE T H0 wb)) :
    PE X (.BoolOp .And (a :: b :: rest) pos) (liftE T H0 fun δ M Q => wa δ M fun x M1 => dTru x M1 fun k => if k = true then wb δ M1 Q else Q x M1) :=
  (pe_andT ha hb).weak fun σ H k h => by
    obtain ⟨δ, M, Q, rl, hw, kk⟩ := h
    refine ⟨δ, M, _, rl, hw, fun v H1 d M1 r1 s1 d1 q1 => ?_⟩
    obtain ⟨b, t, q⟩ := tru_den r1.mem d1 q1
    refine ⟨b, by rw [hT]; exact t, ?_⟩
    cases b with
    | true => exact iteT ⟨δ, M1, Q, r1, by simpa using q, fun w H' e M' r s dd qq => kk w H' e M' r (s1.trans s) dd qq⟩
    | false => exact iteF (kk _ _ _ _ r1 s1 d1 (by simpa using q))
theorem de_or {rest : List Expr} (hT : X.K = T.K) (ha : PE X a (liftE T H0 wa)) (hb : PE X (.BoolOp .Or (b :: rest) pos) (liftE T H0 wb)) :
    PE X (.BoolOp .Or (a :: b :: rest) pos) (liftE T H0 fun δ M Q => wa δ M fun x M1 => dTru x M1 fun k => if k = true then Q x M1 else wb δ M1 Q) :=
  (pe_orT ha hb).weak fun σ H k h => by
    obtain ⟨δ, M, Q, rl, hw, kk⟩ := h
    refine ⟨δ, M, _, rl, hw, fun v H1 d M1 r1 s1 d1 q1 => ?_⟩
    obtain ⟨b, t, q⟩ := tru_den r1.mem d1 q1
    refine ⟨b, by rw [hT]; exact t, ?_⟩
    cases b with
    | true => exact iteT (kk _ _ _ _ r1 s1 d1 (by simpa using q))
    | false => exact iteF ⟨δ, M1, Q, r1, by simpa using q, fun w H' e M' r s dd qq => kk w H' e M' r (s1.trans s) dd qq⟩
theorem chn_E {f g : D → D → Mem → QD → Prop} {σ : L2.St} {H : Hp} {k : VK}
    (h : liftE T H0 (fun δ M Q => wa δ M fun x M1 => wb δ M1 fun y M2 => f x y M2 fun z M3 => wChn z fun k => if k = true then wc δ M3 fun u M4 => g y u M4 Q else Q (.bl false) M3) σ H k) :
    tChain (rD T f) (rD T g) (liftE T H0 wa) (liftE T H0 wb) (liftE T H0 wc) σ H k := by
  obtain ⟨δ, M, Q, rl, hw, kk⟩ := h
  refine ⟨δ, M, _, rl, hw, fun v H1 d M1 r1 s1 d1 q1 => ⟨δ, M1, _, r1, q1, fun u H2 e M2 r2 s2 d2 q2 => ⟨d, e, M2, _, d1.stb s2, d2, r2.mem, q2, fun w H3 f M3 s3 m3 d3 q3 => ?_⟩⟩⟩
  cases d3 with
  | bl k =>
    have r3 := r2.to s3 m3
    have st := (s1.trans s2).trans s3
    refine ⟨k, rfl, ?_⟩
    cases k with
    | true => exact iteT ⟨δ, M3, _, r3, by simpa [wChn] using q3, fun w H4 i M4 r4 s4 d4 q4 => ⟨e, i, M4, Q, (d2.stb s3).stb s4, d4, r4.mem, q4, fun w H' e M' s m dd q => kk w H' e M' (r4.to s m) ((st.trans s4).trans s) dd q⟩⟩
    | false => exact iteF (kk _ _ _ _ r3 st (.bl _) (by simpa [wChn] using q3))
  | _ => exact (show False from q3).elim
theorem de_chn {op op' : CmpOp} (hT : X.K = T.K) (hu : X.A.units + 65 < cLine) (hm : lastMarks [op, op'] [b, c] = false) (ha : PE X a (liftE T H0 wa)) (hb : PE X b (liftE T H0 wb)) (hc : PE X c (liftE T H0 wc)) :
    PE X (.Compare a [op, op'] [b, c] pos) (liftE T H0 fun δ M Q => wa δ M fun x M1 => wb δ M1 fun y M2 => wCmp op x y M2 fun z M3 => wChn z fun k => if k = true then wc δ M3 fun u M4 => wCmp op' y u M4 Q else Q (.bl false) M3) :=
  (pe_chain (op_cmpD hT hu op) (op_cmpD hT hu op') ha hb hc hm).weak fun _ _ _ h => chn_E h
def tChn3 (r1 r2 r3 : R2) (ta tb tc td : TE) : TE := fun σ H Q => ta σ H fun x H1 => tb σ H1 fun y H2 => r1 x y H2 fun z H3 => ∃ k, z = .bl k ∧
  (if k = true then tc σ H3 fun u H4 => r2 y u H4 fun z' H5 => ∃ k', z' = .bl k' ∧ (if k' = true then td σ H5 fun v H6 => r3 u v H6 Q else Q (.bl false) H5) else Q (.bl false) H3)
theorem pe_chn3 {X : Cx} {a b c d : Expr} {pos : Pos} {o1 o2 o3 : CmpOp} {r1 r2 r3 : R2} {ta tb tc td : TE} (h1 : OpR X (compareOp o1) r1) (h2 : OpR X (compareOp o2) r2) (h3 : OpR X (compareOp o3) r3) (ha : PE X a ta) (hb : PE X b tb) (hc : PE X c tc) (hd : PE X d td)
    (hm : lastMarks [o1, o2, o3] [b, c, d] = false) : PE X (.Compare a [o1, o2, o3] [b, c, d] pos) (tChn3 r1 r2 r3 ta tb tc td) := by
  refine ⟨fun pins s σ H Q I h => ?_⟩
  refine Compare_chain (thn (ha.run pins s σ H _ I h) fun v s1 ⟨x, H1, I1, e1, q1⟩ => chain_link (thn (hb.run pins s1 σ H1 _ I1 q1) fun u s2 ⟨y, H2, I2, e2, q2⟩ =>
    thn (h1 pins s2 σ H2 x y v u _ I2 e1 e2 q2) fun t s3 ⟨z, H3, I3, e3, k, ez, q3⟩ => ?_)) hm
  subst ez
  cases e3
  refine wpAny_truthy_bool ?_
  cases k with
  | false => exact ite_ff ⟨.bl false, H3, I3, rfl, q3⟩
  | true =>
    refine ite_tt (chain_link (thn (hc.run pins s3 σ H3 _ I3 q3) fun w s4 ⟨g, H4, I4, e4, q4⟩ => thn (h2 pins s4 σ H4 y g u w _ I4 e2 e4 q4) fun t' s5 ⟨z2, H5, I5, e5, k2, ez2, q5⟩ => ?_))
    subst ez2
    cases e5
    refine wpAny_truthy_bool ?_
    cases k2 with
    | false => exact ite_ff ⟨.bl false, H5, I5, rfl, q5⟩
    | true => exact ite_tt (chain_last (thn (hd.run pins s5 σ H5 _ I5 q5) fun w' s6 ⟨g2, H6, I6, e6, q6⟩ => h3 pins s6 σ H6 g g2 w w' Q I6 e4 e6 q6))
theorem de_chn3 {d : Expr} {wd : WpE} {o1 o2 o3 : CmpOp} (hT : X.K = T.K) (hu : X.A.units + 65 < cLine) (hm : lastMarks [o1, o2, o3] [b, c, d] = false) (ha : PE X a (liftE T H0 wa)) (hb : PE X b (liftE T H0 wb)) (hc : PE X c (liftE T H0 wc)) (hd : PE X d (liftE T H0 wd)) :
    PE X (.Compare a [o1, o2, o3] [b, c, d] pos) (liftE T H0 fun δ M Q => wa δ M fun x M1 => wb δ M1 fun y M2 => wCmp o1 x y M2 fun z M3 => wChn z fun k => if k = true then wc δ M3 fun u M4 => wCmp o2 y u M4 fun z' M5 => wChn z' fun k' => if k' = true then wd δ M5 fun v M6 => wCmp o3 u v M6 Q else Q (.bl false) M5 else Q (.bl false) M3) :=
  (pe_chn3 (op_cmpD hT hu o1) (op_cmpD hT hu o2) (op_cmpD hT hu o3) ha hb hc hd hm).weak fun σ H k ⟨δ, M, Q, rl, hw, kk⟩ =>
    ⟨δ, M, _, rl, hw, fun v H1 d M1 r1 s1 d1 q1 => ⟨δ, M1, _, r1, q1, fun u H2 e M2 r2 s2 d2 q2 => ⟨d, e, M2, _, d1.stb s2, d2, r2.mem, q2, fun w H3 f M3 s3 m3 d3 q3 => by
      cases d3 with
      | bl k =>
        have r3 := r2.to s3 m3
        have st := (s1.trans s2).trans s3
        refine ⟨k, rfl, ?_⟩
        cases k with
        | false => exact iteF (kk _ _ _ _ r3 st (.bl _) (by simpa [wChn] using q3))
        | true =>
          refine iteT ⟨δ, M3, _, r3, by simpa [wChn] using q3, fun g H4 i M4 r4 s4 d4 q4 => ⟨e, i, M4, _, (d2.stb s3).stb s4, d4, r4.mem, q4, fun w H5 f M5 s5 m5 d5 q5 => ?_⟩⟩
          cases d5 with
          | bl k2 =>
            have r5 := r4.to s5 m5
            have st2 := (st.trans s4).trans s5
            refine ⟨k2, rfl, ?_⟩
            cases k2 with
            | false => exact iteF (kk _ _ _ _ r5 st2 (.bl _) (by simpa [wChn] using q5))
            | true => exact iteT ⟨δ, M5, _, r5, by simpa [wChn] using q5, fun w H6 j M6 r6 s6 d6 q6 => ⟨i, j, M6, Q, (d4.stb s5).stb s6, d6, r6.mem, q6, fun w H' e M' s m dd q => kk w H' e M' (r6.to s m) ((st2.trans s6).trans s) dd q⟩⟩
          | _ => exact (show False from q5).elim
      | _ => exact (show False from q3).elim⟩⟩⟩
/-! ### a display of whole numbers, asked at once -/
def kvE (kvs : List (Int × Int)) : List (TE × TE) := kvs.map fun e => (tC (.int e.1), tC (.int e.2))
theorem kv_pairs {σ : L2.St} {H : Hp} : ∀ (kvs : List (Int × Int)) (Q : List (V × V) → Hp → Prop), Q (kvs.map fun e => (V.int e.1, V.int e.2)) H → tPairs (kvE kvs) σ H Q
  | [], Q, h => h
  | e :: r, Q, h => kv_pairs r (fun ps H3 => Q ((V.int e.1, V.int e.2) :: ps) H3) h
theorem de_dgv {kvs : List (Int × Int)} {keys : List (Option Expr)} {vals : List Expr} {p1 p2 p3 : Pos} {x : Str} {i : Nat} (hu : X.A.units + 65 < cLine) (h : PPs X p1 keys vals (kvE kvs)) (hall : keys.all (·.isSome) = true) (hl : keys.length = vals.length) (h0 : keys ≠ []) (h15 : keys.length ≤ 15) (hl2 : kvs.length ≤ 15)
    (hN : X.N[i]? = some x) (hv : Vis X.env.scope x) (hdb : (x == ("__debug__" : Str)) = false) (hcd : (x == ("__classdict__" : Str)) = false) :
    PE X (.Subscript (.Dict keys vals p1) (.Name x p2) p3) (liftE T H0 fun δ M Q => opt δ[i]? fun o => opt o fun d => dgV kvs d M Q) :=
  (pe_dget (by omega) (pe_disp h hall hl h0 h15) (pe_var hN hv hdb hcd) fun _ _ => rfl).weak fun σ H k ⟨δ, M, Q, rl, hw, kk⟩ => by
    obtain ⟨o, e1, hw⟩ := ofOpt hw
    obtain ⟨d, rfl, hw⟩ := ofOpt hw
    obtain ⟨v, e2, hd⟩ := rl.env.get i d e1
    intro p hp
    refine kv_pairs kvs _ ⟨upd_same, kvs.map fun e => ((Sum.inl e.1 : Key), V.int e.2), by simp [kV], by simpa using hl2, v, e2, ?_⟩
    cases hd with
    | int n =>
      obtain ⟨u, e3, q⟩ := ofOpt (show opt (valV (mergeK [] (kvs.map fun e => ((Sum.inl e.1 : Key), V.int e.2))) (.inl n)) fun v => match v with
        | .int u => Q (.int u) M
        | _ => False from hw)
      cases u with
      | int u =>
        rw [upd_upd]
        exact ⟨p, .int u, rfl, by have z := DGet.k (k := Sum.inl n) (show (upd H p (.dK (mergeK [] (kvs.map fun e => ((Sum.inl e.1 : Key), V.int e.2))))) p = some _ from upd_same); rw [e3] at z; exact z, kk _ _ _ _ (rl.new hp) (Stb.new hp) (.int _) q⟩
      | _ => exact (show False from q).elim
    | _ => exact (show False from hw).elim
theorem de_ite {t : Expr} (ht : PT X t (liftT T H0 ta)) (ha : PE X a (liftE T H0 wa)) (hb : PE X b (liftE T H0 wb)) : PE X (.IfExp t a b pos) (liftE T H0 fun δ M Q => ta δ M fun k M1 => if k = true then wa δ M1 Q else wb δ M1 Q) :=
  (pe_ifExp ht ha hb).weak fun σ H k h => by
    obtain ⟨δ, M, Q, rl, hw, kk⟩ := h
    refine ⟨δ, M, _, rl, hw, fun b H1 M1 r1 s1 q1 => ?_⟩
    cases b with
    | true => exact iteT ⟨δ, M1, Q, r1, by simpa using q1, fun w H' e M' r s dd qq => kk w H' e M' r (s1.trans s) dd qq⟩
    | false => exact iteF ⟨δ, M1, Q, r1, by simpa using q1, fun w H' e M' r s dd qq => kk w H' e M' r (s1.trans s) dd qq⟩
/-! ### tests -/
theorem dt_val (hT : X.K = T.K) (ha : PE X a (liftE T H0 wa)) (he : ∀ whole, isTrue a X.env whole = (do let v ← whole; standAt a.pos; holding [v] (truthy v))) :
    PT X a (liftT T H0 fun δ M Q => wa δ M fun z M3 => dTru z M3 fun k => Q k M3) :=
  (pt_truth ha he).weak fun σ H k h => by
    obtain ⟨δ, M, Q, rl, hw, kk⟩ := h
    refine ⟨δ, M, _, rl, hw, fun v H1 d M1 r1 s1 d1 q1 => ?_⟩
    obtain ⟨b, t, q⟩ := tru_den r1.mem d1 q1
    exact ⟨b, by rw [hT]; exact t, kk _ _ _ r1 s1 q⟩
theorem dt_cmp {op : CmpOp} (hT : X.K = T.K) (hu : X.A.units + 65 < cLine) (hm : behindInMarks op b = false) (ha : PE X a (liftE T H0 wa)) (hb : PE X b (liftE T H0 wb)) :
    PT X (.Compare a [op] [b] pos) (liftT T H0 fun δ M Q => wa δ M fun x M1 => wb δ M1 fun y M2 => wCmp op x y M2 fun z M3 => wChn z fun k => Q k M3) :=
  (pt_cmpR (op_cmpD hT hu op) ha hb hm).weak fun σ H k h => by
    obtain ⟨δ, M, Q, rl, hw, kk⟩ := h
    refine two_E (wa := wa) (wb := wb) ⟨δ, M, _, rl, hw, fun v H' d M' r s dd q => ?_⟩
    cases dd with
    | bl k => exact ⟨k, rfl, kk _ _ _ r s q⟩
    | _ => exact (show False from q).elim
theorem dt_chn {op op' : CmpOp} (hT : X.K = T.K) (hu : X.A.units + 65 < cLine) (hm : lastMarks [op, op'] [b, c] = false) (ha : PE X a (liftE T H0 wa)) (hb : PE X b (liftE T H0 wb)) (hc : PE X c (liftE T H0 wc)) :
    PT X (.Compare a [op, op'] [b, c] pos) (liftT T H0 fun δ M Q => wa δ M fun x M1 => wb δ M1 fun y M2 => wCmp op x y M2 fun z M3 => wChn z fun k => if k = true then wc δ M3 fun u M4 => wCmp op' y u M4 fun z' M5 => wChn z' fun k' => Q k' M5 else Q false M3) :=
  (pt_chain (op_cmpD hT hu op) (op_cmpD hT hu op') ha hb hc hm).weak fun σ H k h => by
    obtain ⟨δ, M, Q, rl, hw, kk⟩ := h
    refine chn_E (wa := wa) (wb := wb) (wc := wc) ⟨δ, M, fun z M5 => wChn z fun k' => Q k' M5, rl, hw, fun v H' d M' r s dd q => ?_⟩
    cases dd with
    | bl k => exact ⟨k, rfl, kk _ _ _ r s q⟩
    | _ => exact (show False from q).elim
theorem dt_not (ha : PT X a (liftT T H0 ta)) : PT X (.UnaryOp .Not a pos) (liftT T H0 fun δ M Q => ta δ M fun k M1 => Q (!k) M1) :=
  (pt_not ha).weak fun σ H k h => by
    obtain ⟨δ, M, Q, rl, hw, kk⟩ := h
    exact ⟨δ, M, _, rl, hw, fun b H1 M1 r1 s1 q1 => kk _ _ _ r1 s1 q1⟩
theorem dw_and {rest : List Expr} (ha : PT X a (liftT T H0 ta)) (hb : PW X (.BoolOp .And (b :: rest) pos) (liftT T H0 tb)) : PW X (.BoolOp .And (a :: b :: rest) pos) (liftT T H0 fun δ M Q => ta δ M fun k M1 => if k = true then tb δ M1 Q else Q false M1) :=
  (pw_and ha hb).weak fun σ H k h => by
    obtain ⟨δ, M, Q, rl, hw, kk⟩ := h
    refine ⟨δ, M, _, rl, hw, fun b H1 M1 r1 s1 q1 => ?_⟩
    cases b with
    | true => exact iteT ⟨δ, M1, Q, r1, by simpa using q1, fun w H' M' r s qq => kk w H' M' r (s1.trans s) qq⟩
    | false => exact iteF (kk _ _ _ r1 s1 (by simpa using q1))
theorem dw_or {rest : List Expr} (ha : PT X a (liftT T H0 ta)) (hb : PW X (.BoolOp .Or (b :: rest) pos) (liftT T H0 tb)) : PW X (.BoolOp .Or (a :: b :: rest) pos) (liftT T H0 fun δ M Q => ta δ M fun k M1 => if k = true then Q true M1 else tb δ M1 Q) :=
  (pw_or ha hb).weak fun σ H k h => by
    obtain ⟨δ, M, Q, rl, hw, kk⟩ := h
    refine ⟨δ, M, _, rl, hw, fun b H1 M1 r1 s1 q1 => ?_⟩
    cases b with
    | true => exact iteT (kk _ _ _ r1 s1 (by simpa using q1))
    | false => exact iteF ⟨δ, M1, Q, r1, by simpa using q1, fun w H' M' r s qq => kk w H' M' r (s1.trans s) qq⟩
/-! ### argument lists, displays -/
theorem da_nil : PA X [] (liftA T H0 fun _ M Q => Q [] M) := pa_nil.weak fun σ H k ⟨δ, M, Q, rl, hw, kk⟩ => kk [] H [] M rl (Stb.refl _) .nil hw
theorem da_cons {e : Expr} {es : List Expr} {wr : WpA} (h1 : PE X e (liftE T H0 wa)) (h2 : PA X es (liftA T H0 wr)) (hs : notStar e = true) : PA X (e :: es) (liftA T H0 fun δ M Q => wa δ M fun d M1 => wr δ M1 fun ds M2 => Q (d :: ds) M2) :=
  (pa_cons h1 h2 (star_ok hs)).weak fun σ H k ⟨δ, M, Q, rl, hw, kk⟩ =>
    ⟨δ, M, _, rl, hw, fun v H1 d M1 r1 s1 d1 q1 => ⟨δ, M1, _, r1, q1, fun vs H2 ds M2 r2 s2 d2 q2 => kk _ _ _ _ r2 (s1.trans s2) (.cons (d1.stb s2) d2) q2⟩⟩
theorem line4096 {n : Nat} (h : n ≤ 4096) : n ≤ sizeLine := by rw [sizeLine_eq]; omega
theorem de_tup {es : List Expr} {wr : WpA} {k1 : Nat} (h : PA X es (liftA T H0 wr)) : PE X (.Tuple es k1 pos) (liftE T H0 fun δ M Q => wr δ M fun ds M1 => ds.length ≤ 4096 ∧ Q (.tup ds) M1) :=
  (pe_tup h).weak fun σ H k ⟨δ, M, Q, rl, hw, kk⟩ =>
    ⟨δ, M, _, rl, hw, fun vs H1 ds M1 r1 s1 d1 q1 => ⟨by rw [d1.length]; exact line4096 q1.1, fun p n => kk _ _ _ _ (r1.new n) (s1.trans (Stb.new n)) (.tup (.inl (.inl upd_same)) (d1.stb (Stb.new n))) q1.2⟩⟩
theorem de_lst {es : List Expr} {wr : WpA} (h : PA X es (liftA T H0 wr)) : PE X (.List es pos) (liftE T H0 fun δ M Q => wr δ M fun ds M1 => ds.length ≤ 4096 ∧ Q (.lst ds) M1) :=
  (PE.lock (pe_lst h)).weak fun σ H k ⟨δ, M, Q, rl, hw, kk⟩ =>
    ⟨δ, M, _, rl, hw, fun vs H1 ds M1 r1 s1 d1 q1 => ⟨by rw [d1.length]; exact line4096 q1.1, fun p n => lock_new n r1.mem d1 fun v H' s m dd => kk _ _ _ _ (r1.to s m) (s1.trans s) dd q1.2⟩⟩
theorem de_mls {es : List Expr} {wr : WpA} (h : PA X es (liftA T H0 wr)) : PE X (.List es pos) (liftE T H0 fun δ M Q => wr δ M fun ds M1 => ds.length ≤ 4096 ∧ ∀ p, M1 p = none → Q (.ref p) (M1.put p (.lst ds))) :=
  (pe_lst h).weak fun σ H k ⟨δ, M, Q, rl, hw, kk⟩ =>
    ⟨δ, M, _, rl, hw, fun vs H1 ds M1 r1 s1 d1 q1 => ⟨by rw [d1.length]; exact line4096 q1.1, fun p n =>
      kk _ _ _ _ (r1.to (Stb.new n) (r1.mem.put (m := .lst ds) (Stb1.new n) ⟨vs, upd_same, d1.stb (Stb.new n)⟩)) (s1.trans (Stb.new n)) (.ref p) (q1.2 p (r1.mem.free n))⟩⟩
theorem de_idx (hT : X.K = T.K) (hs : notSlice b = true) (ha : PE X a (liftE T H0 wa)) (hb : PE X b (liftE T H0 wb)) : PE X (.Subscript a b pos) (liftE T H0 fun δ M Q => wa δ M fun x M1 => wb δ M1 fun y M2 => wIdx x y M2 Q) :=
  (pe_ix (ix_D hT) ha hb (plainIx hs)).weak fun _ _ _ h => two_E h
def liftO (T : Tx) (H0 : Hp) (w : Ev → Mem → (Option Int → Mem → Prop) → Prop) : TO := fun σ H k => ∃ δ M Q, Rl T H0 σ H δ M ∧ w δ M Q ∧ ∀ o H' M', Rl T H0 σ H' δ M' → Stb H H' → Q o M' → k o H'
theorem do_none : PO X none (liftO T H0 fun _ M Q => Q none M) := by
  refine ⟨fun pins s σ H Q I h => ?_⟩
  obtain ⟨δ, M, QQ, rl, hw, kk⟩ := h
  exact (po_none).run pins s σ H Q I (kk none H M rl (Stb.refl _) hw)
theorem do_some (ha : PE X a (liftE T H0 wa)) : PO X (some a) (liftO T H0 fun δ M Q => wa δ M fun d M1 => match d with
    | .int i => Q (some i) M1
    | _ => False) := by
  refine ⟨fun pins s σ H Q I h => ?_⟩
  obtain ⟨δ, M, QQ, rl, hw, kk⟩ := h
  refine (po_some ha).run pins s σ H Q I ⟨δ, M, _, rl, hw, fun v H1 d M1 r1 s1 d1 q1 => ?_⟩
  cases d1 with
  | int i => exact ⟨i, rfl, kk _ _ _ r1 s1 q1⟩
  | _ => exact (show False from q1).elim
theorem de_slc {lo hi : Option Expr} {p2 : Pos} {wl wh : Ev → Mem → (Option Int → Mem → Prop) → Prop} (hT : X.K = T.K) (ha : PE X a (liftE T H0 wa)) (hl : PO X lo (liftO T H0 wl)) (hh : PO X hi (liftO T H0 wh)) :
    PE X (.Subscript a (.Slice lo hi none p2) pos) (liftE T H0 fun δ M Q => wa δ M fun x M1 => wl δ M1 fun l M2 => wh δ M2 fun u M3 => wSlc x l u M3 Q) :=
  (pe_slice (sl_D hT) ha hl hh).weak fun σ H k ⟨δ, M, Q, rl, hw, kk⟩ =>
    ⟨δ, M, _, rl, hw, fun v H1 d M1 r1 s1 d1 q1 => ⟨δ, M1, _, r1, q1, fun l H2 M2 r2 s2 q2 => ⟨δ, M2, _, r2, q2, fun u H3 M3 r3 s3 q3 =>
      ⟨d, M3, Q, (d1.stb s2).stb s3, r3.mem, q3, fun w H' e M' s m dd q => kk w H' e M' (r3.to s m) (((s1.trans s2).trans s3).trans s) dd q⟩⟩⟩⟩
end
end DL
namespace DL
open PySem PySem.Spec PyProof.Rows L2
/-! ### what is walked -/
structure ItOk (T : Tx) (J : L2.It) (H1 : Hp) (ds : List D) (ch : Mem → Prop) : Prop where
  go : ∀ i H M, Stb H1 H → MemOk T H M → ch M → i < ds.length → J.go i H
  yld : ∀ i H M x H' d, Stb H1 H → MemOk T H M → ch M → ds[i]? = some d → J.yld i H x H' → Stb H H' ∧ MemOk T H' M ∧ Den T H' x d
  stop : ∀ H M, Stb H1 H → MemOk T H M → ch M → J.stop ds.length H
abbrev WpI := Ev → Mem → (List D → (Mem → Prop) → Mem → Prop) → Prop
def liftI (T : Tx) (H0 : Hp) (w : WpI) : TI := fun σ H R => ∃ δ M Q, Rl T H0 σ H δ M ∧ w δ M Q ∧ ∀ J H' ds ch M', Rl T H0 σ H' δ M' → Stb H H' → ItOk T J H' ds ch → Q ds ch M' → R J H'
section
variable {X : Cx} {T : Tx} {H0 : Hp} {a b c tg : Expr} {wa wb wc : WpE} {pos : Pos}
theorem _root_.L2.PI.weak {e : Expr} {t t' : TI} (h : PI X tg e t) (w : ∀ σ H k, t' σ H k → t σ H k) : PI X tg e t' := ⟨fun p s σ H k I q => h.run p s σ H k I (w σ H k q)⟩
/-- a list, a tuple, a text: whichever the value is -/
theorem pi_any {e : Expr} {te : TE} (he : PE X e te) : PI X tg e (fun σ H R => te σ H fun x H1 =>
    (∃ a xs, x = .ref a ∧ SqL X.K H1 a xs ∧ (xs.length ≤ sizeLine → R (Itl X.K a) H1)) ∨ (∃ a xs, x = .ref a ∧ SqT X.K H1 a xs ∧ (xs.length ≤ sizeLine → R (Itt X.K a) H1)) ∨ ∃ z, x = .str z ∧ R (Its z) H1) := by
  refine ⟨fun pins s σ H R I h => ?_⟩
  refine thn (he.run pins s σ H _ I h) fun v s1 ⟨x, H1, I1, r1, q1⟩ => ?_
  rcases q1 with ⟨a, xs, e, hq, q⟩ | ⟨a, xs, e, hq, q⟩ | ⟨z, e, q⟩
  · subst e
    cases r1
    obtain ⟨its, rv, p, hz⟩ := I1.list hq
    refine wpAny_pyIter_list p.isList ?_
    refine ⟨s1.heap.objs.size, [s1.heap.objs.size], _, _, H1, rfl, I1.kept (t' := s1.toks) fun b o e => Heap.get?_push_of_some _ e, turn_list a _, ⟨_, Heap.get?_push_size _ rfl, rfl, rfl⟩, fun b hb => ?_, q hz⟩
    have e : b = s1.heap.objs.size := by simpa using hb
    subst e
    exact I1.fpOk (Nat.le_refl _) (I1.hok.fresh (Nat.le_refl _))
  · subst e
    cases r1
    obtain ⟨its, rv, p, hz⟩ := I1.tuple hq
    refine wpAny_pyIter_tuple (show s1.heap.IsTuple a its.toArray from p) ?_
    refine ⟨s1.heap.objs.size, [s1.heap.objs.size], _, _, H1, rfl, I1.kept (t' := s1.toks) fun b o e => Heap.get?_push_of_some _ e, turn_tuple a _, ⟨_, Heap.get?_push_size _ rfl, rfl, rfl⟩, fun b hb => ?_, q hz⟩
    have e : b = s1.heap.objs.size := by simpa using hb
    subst e
    exact I1.fpOk (Nat.le_refl _) (I1.hok.fresh (Nat.le_refl _))
  · subst e
    obtain ⟨t, rfl⟩ := r1
    cases ha : z.cps.all (· < 128)
    · exact wpAny_pyIter_wide ha (pi_one (tk := s1.toks) I1 _ (turn_str _ z t "str_iterator" (.inr rfl)) ⟨_, Heap.get?_push_size _ rfl, rfl, rfl⟩ q)
    · exact wpAny_pyIter_ascii ha (pi_one (tk := s1.toks) I1 _ (turn_str _ z t "str_ascii_iterator" (.inl rfl)) ⟨_, Heap.get?_push_size _ rfl, rfl, rfl⟩ q)
theorem itok_list {H1 : Hp} {a : Addr} {vs : List V} {ds : List D} (h : FzL T.K H1 a vs) (r : DenL T H1 vs ds) : ItOk T (Itl T.K a) H1 ds (fun _ => True) where
  go := fun i H M s m _ hi => by
    obtain ⟨v, e, _⟩ := r.get (List.getElem?_eq_getElem hi)
    exact ⟨vs, v, (h.stb s).seq, e⟩
  yld := fun i H M x H' d s m _ e y => by
    obtain ⟨rfl, y⟩ := y
    obtain ⟨v, e1, hd⟩ := r.get e
    have := y vs (h.stb s).seq
    rw [e1] at this
    cases this
    exact ⟨Stb.refl _, m, hd.stb s⟩
  stop := fun H M s m _ => ⟨vs, (h.stb s).seq, Nat.le_of_eq r.length⟩
theorem itok_tup {H1 : Hp} {a : Addr} {vs : List V} {ds : List D} (h : SqT T.K H1 a vs) (r : DenL T H1 vs ds) : ItOk T (Itt T.K a) H1 ds (fun _ => True) where
  go := fun i H M s m _ hi => by
    obtain ⟨v, e, _⟩ := r.get (List.getElem?_eq_getElem hi)
    exact ⟨vs, v, SqT.stb s h, e⟩
  yld := fun i H M x H' d s m _ e y => by
    obtain ⟨rfl, y⟩ := y
    obtain ⟨v, e1, hd⟩ := r.get e
    have := y vs (SqT.stb s h)
    rw [e1] at this
    cases this
    exact ⟨Stb.refl _, m, hd.stb s⟩
  stop := fun H M s m _ => ⟨vs, SqT.stb s h, Nat.le_of_eq r.length⟩
theorem itok_ref {H1 : Hp} {a : Addr} {ds : List D} : ItOk T (Itl T.K a) H1 ds (fun M => M a = some (.lst ds)) where
  go := fun i H M s m ch hi => by
    obtain ⟨vs, e, r⟩ := m.1 a _ ch
    obtain ⟨v, e1, _⟩ := r.get (List.getElem?_eq_getElem hi)
    exact ⟨vs, v, SqL.of e, e1⟩
  yld := fun i H M x H' d s m ch e y => by
    obtain ⟨rfl, y⟩ := y
    obtain ⟨vs, e0, r⟩ := m.1 a _ ch
    obtain ⟨v, e1, hd⟩ := r.get e
    have := y vs (SqL.of e0)
    rw [e1] at this
    cases this
    exact ⟨Stb.refl _, m, hd⟩
  stop := fun H M s m ch => by
    obtain ⟨vs, e0, r⟩ := m.1 a _ ch
    exact ⟨vs, SqL.of e0, Nat.le_of_eq r.length⟩
theorem itok_str {H1 : Hp} {z : Str} : ItOk T (Its z) H1 (z.cps.toList.map fun c => .str ⟨#[c]⟩) (fun _ => True) where
  go := fun i H M s m ch hi => by
    show i < z.cps.size
    simpa using hi
  yld := fun i H M x H' d s m ch e y => by
    obtain ⟨rfl, c, e1, rfl⟩ := y
    rw [List.getElem?_map, Array.getElem?_toList, e1] at e
    cases e
    exact ⟨Stb.refl _, m, .str _ (sgn_len c)⟩
  stop := fun H M s m ch => by
    show z.cps.size ≤ _
    simp
theorem itok_rng {H1 : Hp} {lo : Int} {n : Nat} : ItOk T (Itr lo n) H1 (rngD lo 1 n) (fun _ => True) where
  go := fun i H M s m ch hi => by
    show i < n
    simpa [rngD] using hi
  yld := fun i H M x H' d s m ch e y => by
    obtain ⟨rfl, rfl⟩ := y
    unfold rngD at e
    rw [List.getElem?_map] at e
    cases q : (List.range n)[i]? with
    | none => rw [q] at e; cases e
    | some j =>
      rw [q] at e
      cases e
      have : j = i := by
        have := List.getElem?_eq_some_iff.mp q
        obtain ⟨h1, h2⟩ := this
        simpa using h2.symm
      subst this
      refine ⟨Stb.refl _, m, ?_⟩
      show Den T H' (V.int (lo + (j : Int))) (.int (lo + (j : Int) * 1))
      rw [Int.mul_one]
      exact .int _
  stop := fun H M s m ch => by
    show n ≤ _
    simp [rngD]
theorem itok_rngC {H1 : Hp} {lo c : Int} {n : Nat} : ItOk T (Itc lo c n) H1 (rngD lo c n) (fun _ => True) where
  go := fun i H M s m ch hi => by
    show i < n
    simpa [rngD] using hi
  yld := fun i H M x H' d s m ch e y => by
    obtain ⟨rfl, rfl⟩ := y
    unfold rngD at e
    rw [List.getElem?_map] at e
    cases q : (List.range n)[i]? with
    | none => rw [q] at e; cases e
    | some j =>
      rw [q] at e
      cases e
      have : j = i := by
        have := List.getElem?_eq_some_iff.mp q
        obtain ⟨h1, h2⟩ := this
        simpa using h2.symm
      subst this
      exact ⟨Stb.refl _, m, .int _⟩
  stop := fun H M s m ch => by
    show n ≤ _
    simp [rngD]
theorem di_val (hT : X.K = T.K) (ha : PE X a (liftE T H0 wa)) : PI X tg a (liftI T H0 fun δ M k => wa δ M fun x M1 => opt (itM M1 x) fun ds => ds.length ≤ sizeLine → k ds (chk x ds) M1) :=
  (pi_any ha).weak fun σ H R ⟨δ, M, Q, rl, hw, kk⟩ => ⟨δ, M, _, rl, hw, fun v H1 d M1 r1 s1 d1 q1 => by
    obtain ⟨ds, e, q⟩ := ofOpt q1
    cases d1 with
    | str z hz =>
      cases e
      refine .inr (.inr ⟨z, rfl, kk _ _ _ _ _ r1 s1 itok_str (q ?_)⟩)
      rw [List.length_map]
      exact hz
    | tup h r =>
      cases e
      exact .inr (.inl ⟨_, _, rfl, by rw [hT]; exact h, fun z => by rw [hT]; exact kk _ _ _ _ _ r1 s1 (itok_tup h r) (q (by rw [← r.length]; exact z))⟩)
    | lst h r =>
      cases e
      exact .inl ⟨_, _, rfl, by rw [hT]; exact h.seq, fun z => by rw [hT]; exact kk _ _ _ _ _ r1 s1 (itok_list h r) (q (by rw [← r.length]; exact z))⟩
    | ref p =>
      have e' : lsM M1 (.ref p) = some ds := e
      have e2 : M1 p = some (.lst ds) := by
        have e3 : (match M1 p with
          | some (.lst ds) => some ds
          | _ => none) = some ds := e'
        cases z : M1 p with
        | none => rw [z] at e3; cases e3
        | some o =>
          rw [z] at e3
          cases o with
          | lst es => cases e3; rfl
          | ins c fs => cases e3
      obtain ⟨vs, h1, r⟩ := r1.mem.1 p _ e2
      exact .inl ⟨_, _, rfl, SqL.of h1, fun z => by rw [hT]; exact kk _ _ _ _ _ r1 s1 itok_ref (q (by rw [← r.length]; exact z))⟩
    | _ => cases e⟩
theorem di_rng1 {p : Pos} (hg : Gl X "range") (hm : X.mg "range" = none) (hs : notStar a = true) (ha : PE X a (liftE T H0 wa)) : PI X tg (.Call (.Name "range" p) [a] [] pos) (liftI T H0 fun δ M k => wa δ M fun x M1 => rg1 x fun ds => k ds (fun _ => True) M1) :=
  (pi_range1 hg hm (pa_cons ha pa_nil (star_ok hs)) (star_ok hs)).weak fun σ H R ⟨δ, M, Q, rl, hw, kk⟩ => ⟨δ, M, _, rl, hw, fun v H1 d M1 r1 s1 d1 q1 => by
    cases d1 with
    | int n => exact ⟨n, rfl, q1.1.1, q1.1.2, kk _ _ _ _ _ r1 s1 itok_rng q1.2⟩
    | _ => exact (show False from q1).elim⟩
theorem di_rng2 {p : Pos} (hg : Gl X "range") (hm : X.mg "range" = none) (hs : notStar a = true) (hs2 : notStar b = true) (ha : PE X a (liftE T H0 wa)) (hb : PE X b (liftE T H0 wb)) :
    PI X tg (.Call (.Name "range" p) [a, b] [] pos) (liftI T H0 fun δ M k => wa δ M fun x M1 => wb δ M1 fun y M2 => rg2 x y fun ds => k ds (fun _ => True) M2) :=
  (pi_range2 hg hm (pa_cons ha (pa_cons hb pa_nil (star_ok hs2)) (star_ok hs)) (by rw [star_ok hs, star_ok hs2] <;> rfl) (by rw [star_ok hs2] <;> rfl)).weak fun σ H R ⟨δ, M, Q, rl, hw, kk⟩ =>
    ⟨δ, M, _, rl, hw, fun v H1 d M1 r1 s1 d1 q1 => ⟨δ, M1, _, r1, q1, fun u H2 e M2 r2 s2 d2 q2 => by
      cases d1 with
      | int n => cases d2 with
        | int m => exact ⟨n, m, rfl, ⟨q2.1.1.1, q2.1.1.2, q2.1.2.1, q2.1.2.2⟩, kk _ _ _ _ _ r2 (s1.trans s2) itok_rng q2.2⟩
        | _ => exact (show False from q2).elim
      | _ => exact (show False from q2).elim⟩⟩
theorem di_rng3 {p : Pos} (hg : Gl X "range") (hm : X.mg "range" = none) (hs : notStar a = true) (hs2 : notStar b = true) (hs3 : notStar c = true) (ha : PE X a (liftE T H0 wa)) (hb : PE X b (liftE T H0 wb)) (hc : PE X c (liftE T H0 wc)) :
    PI X tg (.Call (.Name "range" p) [a, b, c] [] pos) (liftI T H0 fun δ M k => wa δ M fun x M1 => wb δ M1 fun y M2 => wc δ M2 fun z M3 => rg3 x y z fun ds => k ds (fun _ => True) M3) :=
  (pi_range3 hg hm (pa_cons ha (pa_cons hb (pa_cons hc pa_nil (star_ok hs3)) (star_ok hs2)) (star_ok hs)) (star_ok hs) (stars_ok (by show (notStar b && (notStar c && true)) = true; rw [hs2, hs3] <;> rfl))).weak fun σ H R ⟨δ, M, Q, rl, hw, kk⟩ =>
    ⟨δ, M, _, rl, hw, fun v H1 d M1 r1 s1 d1 q1 => ⟨δ, M1, _, r1, q1, fun u H2 e M2 r2 s2 d2 q2 => ⟨δ, M2, _, r2, q2, fun w H3 f M3 r3 s3 d3 q3 => by
      cases d1 with
      | int n => cases d2 with
        | int m => cases d3 with
          | int t =>
            obtain ⟨k, hk, q⟩ := q3
            exact ⟨n, m, t, k, rfl, hk, kk _ _ _ _ _ r3 ((s1.trans s2).trans s3) itok_rngC q⟩
          | _ => exact (show False from q3).elim
        | _ => exact (show False from q3).elim
      | _ => exact (show False from q3).elim⟩⟩⟩
/-! ### comprehensions -/
theorem lock_old {H : Hp} {M : Mem} {p : Addr} {ds : List D} {Q : VK} (hm : MemOk T H M) (e : M p = some (.lst ds)) (q : ∀ v H', Stb H H' → MemOk T H' (M.del p) → Den T H' v (.lst ds) → Q v H') : lockQ Q (.ref p) H := by
  obtain ⟨vs, h, r⟩ := hm.1 p _ e
  refine ⟨p, _, rfl, h, .inl ⟨vs, rfl⟩, fun o => ?_⟩
  have s : Stb1 H (upd H p (.frz o (.lst vs))) := Stb1.wr (by rw [h]; exact trivial)
  exact q _ _ s (hm.del s) (.lst (.inl ⟨o, upd_same⟩) (r.stb s))
theorem de_lc {elt iter : Expr} {ifs : List Expr} {scope : Scope} {own : List (Str × Nat)} {wi : WpI} {t : Tg} {wt : WpT} {we : WpE} (hc : X.calm = true) (hN : X.N.Nodup) (hi : PI X tg iter (liftI T H0 wi)) (ok : BlkOk X.N X.env.scope scope own)
    (hg : ∀ (s : Shared) (H : Hp) (C : Addr) (cl : List (Str × Addr)) (fp : List Addr), PG (X.blk s H scope (compEnvC scope cl C X.env) fp) tg (liftG T H0 t))
    (ht : ∀ (s : Shared) (H : Hp) (C : Addr) (cl : List (Str × Addr)) (fp : List Addr), PTs (X.blk s H scope (compEnvC scope cl C X.env) fp) ifs (liftT T H0 wt))
    (he : ∀ (s : Shared) (H : Hp) (C : Addr) (cl : List (Str × Addr)) (fp : List Addr), PE (X.blk s H scope (compEnvC scope cl C X.env) fp) elt (liftE T H0 we))
    (hs : ∀ x, foldedSetIterable iter X.env x = pure x) (hsl : ∀ i ∈ t.slots, i ∈ own.map (·.2)) :
    PE X (.ListComp elt [⟨tg, iter, ifs, 0⟩] scope pos) (liftE T H0 fun δ M Q => wi δ M fun ds ch M1 => ∀ p, M1 p = none → lcGo (fun d M k => wTg t d M (wipeD δ (own.map (·.2))) fun δ1 => wt δ1 M fun b M2 => if b = true then we δ1 M2 fun y M3 => k (some y) M3 else k none M2) ch p (fun es M3 => Q (.lst es) M3) ds [] (M1.put p (.lst []))) :=
  (PE.lock (pe_lc hc hN hi ok hg ht he hs)).weak fun σ H k ⟨δ, M, Q, rl, hw, kk⟩ => ⟨δ, M, _, rl, hw, fun J H1 ds ch M1 r1 s1 ok1 q1 D hD => by
    refine ⟨fun i m H2 => m = ds.length - i ∧ i ≤ ds.length ∧ ∃ acc M2, Rl T H0 σ H2 δ M2 ∧ Stb H1 H2 ∧ lcGo (fun d M k => wTg t d M (wipeD δ (own.map (·.2))) fun δ1 => wt δ1 M fun b M2 => if b = true then we δ1 M2 fun y M3 => k (some y) M3 else k none M2) ch D (fun es M3 => Q (.lst es) M3) (ds.drop i) acc M2, ⟨_, rfl, Nat.zero_le _, [], _, r1.to (Stb.new hD) (r1.mem.put (m := .lst []) (Stb1.new hD) ⟨[], upd_same, .nil⟩), Stb.new hD, q1 D (r1.mem.free hD)⟩, ?_⟩
    rintro i m H2 ⟨rfl, hi, acc, M2, r2, s2, g⟩
    by_cases hlt : i < ds.length
    · rw [List.drop_eq_getElem_cons hlt] at g
      obtain ⟨gc, g⟩ := g
      refine .inr ⟨ok1.go i H2 M2 s2 r2.mem gc hlt, fun H3 => ∃ acc M3, Rl T H0 σ H3 δ M3 ∧ Stb H1 H3 ∧ lcGo (fun d M k => wTg t d M (wipeD δ (own.map (·.2))) fun δ1 => wt δ1 M fun b M2 => if b = true then we δ1 M2 fun y M3 => k (some y) M3 else k none M2) ch D (fun es M3 => Q (.lst es) M3) (ds.drop (i + 1)) acc M3, ?_, ?_⟩
      · rintro H3 ⟨acc, M3, r3, s3, g3⟩
        exact ⟨_, by omega, rfl, hlt, acc, M3, r3, s3, g3⟩
      · intro x H3 y
        obtain ⟨y1, y2, y3⟩ := ok1.yld i H2 M2 x H3 _ s2 r2.mem gc (List.getElem?_eq_getElem hlt) y
        have r3 : Rl T H0 (wipe σ (own.map (·.2))) H3 (wipeD δ (own.map (·.2))) M2 := ⟨r2.base.trans y1, (r2.env.stb y1).wipe _, y2⟩
        refine ⟨_, _, M2, _, r3, y3, g, fun σ4 δ4 r4 sb4 q4 => ⟨?_, ?_⟩⟩
        · have := sb4 (own.map (·.2)) hsl
          rw [this]
          refine List.ext_getElem? fun j => ?_
          rw [wipe_get, wipe_get, wipe_length]
          by_cases e : j ∈ own.map (·.2)
          · rw [if_pos e, if_pos e]
          · rw [if_neg e]
        · refine ⟨δ4, M2, _, r4, q4, fun b H5 M5 r5 s5 q5 => ?_⟩
          have back : ∀ {σ' : L2.St} {δ' : Ev} {H' : Hp} {M' : Mem}, Rl T H0 σ' H' δ' M' → Stb H3 H' → Rl T H0 σ H' δ M' := fun r s => ⟨r.base, r2.env.stb (y1.trans s), r.mem⟩
          cases b with
          | false =>
            refine iteF ⟨acc, M5, back r5 s5, (s2.trans y1).trans s5, ?_⟩
            simpa using q5
          | true =>
            refine iteT ⟨δ4, M5, _, r5, by simpa using q5, fun y H6 d M6 r6 s6 d6 q6 => ?_⟩
            obtain ⟨e6, l6, g6⟩ := q6
            obtain ⟨vs, h6, rv⟩ := r6.mem.1 D _ e6
            have st : Stb1 H6 (upd H6 D (.lst (vs ++ [y]))) := Stb1.wr (by rw [h6]; exact trivial)
            refine ⟨vs, h6, by rw [rv.length]; exact l6, acc ++ [d], _, ?_, ((s2.trans y1).trans s5).trans (s6.trans st), g6⟩
            exact (back r6 (s5.trans s6)).to st (r6.mem.put (m := .lst (acc ++ [d])) st ⟨_, upd_same, (rv.append (.cons d6 .nil)).stb st⟩)
    · have e : i = ds.length := by omega
      subst e
      rw [List.drop_length] at g
      obtain ⟨gc, ge, gq⟩ := g
      refine .inl ⟨ok1.stop H2 M2 s2 r2.mem gc, lock_old r2.mem ge fun v H' s m dd => ?_⟩
      exact kk _ _ _ _ (r2.to s m) ((s1.trans s2).trans s) dd gq⟩
/-- .. of two clauses, without tests -/
theorem de_lc2 {elt iter tg1 iter1 : Expr} {scope : Scope} {own : List (Str × Nat)} {wi wi1 : WpI} {t t1 : Tg} {we : WpE} (hc : X.calm = true) (hN : X.N.Nodup) (hi : PI X tg iter (liftI T H0 wi)) (ok : BlkOk X.N X.env.scope scope own)
    (hg : ∀ (s : Shared) (H : Hp) (C : Addr) (cl : List (Str × Addr)) (fp : List Addr), PG (X.blk s H scope (compEnvC scope cl C X.env) fp) tg (liftG T H0 t))
    (hi1 : ∀ (s : Shared) (H : Hp) (C : Addr) (cl : List (Str × Addr)) (fp : List Addr), PI (X.blk s H scope (compEnvC scope cl C X.env) fp) tg1 iter1 (liftI T H0 wi1))
    (hg1 : ∀ (s : Shared) (H : Hp) (C : Addr) (cl : List (Str × Addr)) (fp : List Addr), PG (X.blk s H scope (compEnvC scope cl C X.env) fp) tg1 (liftG T H0 t1))
    (ht : ∀ (s : Shared) (H : Hp) (C : Addr) (cl : List (Str × Addr)) (fp : List Addr), PTs (X.blk s H scope (compEnvC scope cl C X.env) fp) [] (liftT T H0 fun δ M Q => Q true M))
    (he : ∀ (s : Shared) (H : Hp) (C : Addr) (cl : List (Str × Addr)) (fp : List Addr), PE (X.blk s H scope (compEnvC scope cl C X.env) fp) elt (liftE T H0 we))
    (hs : ∀ x, foldedSetIterable iter X.env x = pure x) (hs1 : ∀ env x, foldedSetIterable iter1 env x = pure x) (hsl : ∀ i ∈ t.slots, i ∈ own.map (·.2)) (hv : ∀ i ∈ t1.slots, i ∈ own.map (·.2)) :
    PE X (.ListComp elt [⟨tg, iter, [], 0⟩, ⟨tg1, iter1, [], 0⟩] scope pos) (liftE T H0 fun δ M Q => wi δ M fun ds ch M1 => ∀ p, M1 p = none → lcOut (fun d acc M K => wTg t d M (wipeD δ (own.map (·.2))) fun δ1 => wi1 δ1 M fun ds1 ch1 M2 => lcIn (fun d1 M k => wTg t1 d1 M (wipeD δ1 t1.slots) fun δ2 => we δ2 M k) ch1 p K ds1 acc M2) ch p (fun es M3 => Q (.lst es) M3) ds [] (M1.put p (.lst []))) :=
  (PE.lock (pe_lc2 hc hN hi ok hv hg ht hi1 hg1 ht he hs hs1)).weak fun σ H k ⟨δ, M, Q, rl, hw, kk⟩ => ⟨δ, M, _, rl, hw, fun J H1 ds ch M1 r1 s1 ok1 q1 D hD => by
    have wip : ∀ {σ σ' : L2.St} {is ws : List Nat}, (∀ i ∈ is, i ∈ ws) → SameBut is (wipe σ ws) σ' → wipe σ' ws = wipe σ ws := fun {σ σ' is ws} h sb => by
      have := sb ws h
      rw [this]
      refine List.ext_getElem? fun j => ?_
      rw [wipe_get, wipe_get, wipe_length]
      by_cases e : j ∈ ws
      · rw [if_pos e, if_pos e]
      · rw [if_neg e]
    refine ⟨fun i m H2 => m = ds.length - i ∧ i ≤ ds.length ∧ ∃ acc M2, Rl T H0 σ H2 δ M2 ∧ Stb H1 H2 ∧ lcOut (fun d acc M K => wTg t d M (wipeD δ (own.map (·.2))) fun δ1 => wi1 δ1 M fun ds1 ch1 M2 => lcIn (fun d1 M k => wTg t1 d1 M (wipeD δ1 t1.slots) fun δ2 => we δ2 M k) ch1 D K ds1 acc M2) ch D (fun es M3 => Q (.lst es) M3) (ds.drop i) acc M2, ⟨_, rfl, Nat.zero_le _, [], _, r1.to (Stb.new hD) (r1.mem.put (m := .lst []) (Stb1.new hD) ⟨[], upd_same, .nil⟩), Stb.new hD, q1 D (r1.mem.free hD)⟩, ?_⟩
    rintro i m H2 ⟨rfl, hi, acc, M2, r2, s2, g⟩
    by_cases hlt : i < ds.length
    · rw [List.drop_eq_getElem_cons hlt] at g
      obtain ⟨gc, g⟩ := g
      refine .inr ⟨ok1.go i H2 M2 s2 r2.mem gc hlt, fun H3 => ∃ acc M3, Rl T H0 σ H3 δ M3 ∧ Stb H1 H3 ∧ lcOut (fun d acc M K => wTg t d M (wipeD δ (own.map (·.2))) fun δ1 => wi1 δ1 M fun ds1 ch1 M2 => lcIn (fun d1 M k => wTg t1 d1 M (wipeD δ1 t1.slots) fun δ2 => we δ2 M k) ch1 D K ds1 acc M2) ch D (fun es M3 => Q (.lst es) M3) (ds.drop (i + 1)) acc M3, ?_, ?_⟩
      · rintro H3 ⟨acc, M3, r3, s3, g3⟩
        exact ⟨_, by omega, rfl, hlt, acc, M3, r3, s3, g3⟩
      · intro x H3 y
        obtain ⟨y1, y2, y3⟩ := ok1.yld i H2 M2 x H3 _ s2 r2.mem gc (List.getElem?_eq_getElem hlt) y
        have r3 : Rl T H0 (wipe σ (own.map (·.2))) H3 (wipeD δ (own.map (·.2))) M2 := ⟨r2.base.trans y1, (r2.env.stb y1).wipe _, y2⟩
        refine ⟨_, _, M2, _, r3, y3, g, fun σ4 δ4 r4 sb4 q4 => ⟨wip hsl sb4, ?_⟩⟩
        have back : ∀ {σ' : L2.St} {δ' : Ev} {H' : Hp} {M' : Mem}, Rl T H0 σ' H' δ' M' → Stb H3 H' → Rl T H0 σ H' δ M' := fun r s => ⟨r.base, r2.env.stb (y1.trans s), r.mem⟩
        refine ⟨δ4, M2, fun b M' => b = true ∧ M' = M2, r4, ⟨rfl, rfl⟩, fun b H5 M5 r5 s5 ⟨eb, em⟩ => ?_⟩
        subst eb
        subst em
        refine iteT ⟨δ4, M5, _, r5, q4, fun J1 H6 ds1 ch1 M6 r6 s6 ok6 q6 => ?_⟩
        refine ⟨fun j k H7 => k = ds1.length - j ∧ j ≤ ds1.length ∧ ∃ acc M7, Rl T H0 σ4 H7 δ4 M7 ∧ Stb H6 H7 ∧ lcIn (fun d1 M k => wTg t1 d1 M (wipeD δ4 t1.slots) fun δ2 => we δ2 M k) ch1 D (fun acc' M' => lcOut (fun d acc M K => wTg t d M (wipeD δ (own.map (·.2))) fun δ1 => wi1 δ1 M fun ds1 ch1 M2 => lcIn (fun d1 M k => wTg t1 d1 M (wipeD δ1 t1.slots) fun δ2 => we δ2 M k) ch1 D K ds1 acc M2) ch D (fun es M3 => Q (.lst es) M3) (ds.drop (i + 1)) acc' M') (ds1.drop j) acc M7, ⟨_, rfl, Nat.zero_le _, acc, M6, r6, Stb.refl _, q6⟩, ?_⟩
        rintro j k H7 ⟨rfl, hj, acc7, M7, r7, s7, g7⟩
        by_cases hlt1 : j < ds1.length
        · rw [List.drop_eq_getElem_cons hlt1] at g7
          obtain ⟨gc7, g7⟩ := g7
          refine .inr ⟨ok6.go j H7 M7 s7 r7.mem gc7 hlt1, fun H8 => ∃ acc M8, Rl T H0 σ4 H8 δ4 M8 ∧ Stb H6 H8 ∧ lcIn (fun d1 M k => wTg t1 d1 M (wipeD δ4 t1.slots) fun δ2 => we δ2 M k) ch1 D (fun acc' M' => lcOut (fun d acc M K => wTg t d M (wipeD δ (own.map (·.2))) fun δ1 => wi1 δ1 M fun ds1 ch1 M2 => lcIn (fun d1 M k => wTg t1 d1 M (wipeD δ1 t1.slots) fun δ2 => we δ2 M k) ch1 D K ds1 acc M2) ch D (fun es M3 => Q (.lst es) M3) (ds.drop (i + 1)) acc' M') (ds1.drop (j + 1)) acc M8, ?_, ?_⟩
          · rintro H8 ⟨acc8, M8, r8, s8, g8⟩
            exact ⟨_, by omega, rfl, hlt1, acc8, M8, r8, s8, g8⟩
          · intro x8 H8 y8
            obtain ⟨z1, z2, z3⟩ := ok6.yld j H7 M7 x8 H8 _ s7 r7.mem gc7 (List.getElem?_eq_getElem hlt1) y8
            have r8 : Rl T H0 (wipe σ4 t1.slots) H8 (wipeD δ4 t1.slots) M7 := ⟨r7.base.trans z1, (r7.env.stb z1).wipe _, z2⟩
            refine ⟨_, _, M7, _, r8, z3, g7, fun σ9 δ9 r9 sb9 q9 => ⟨wip (fun _ h => h) sb9, ?_⟩⟩
            refine ⟨δ9, M7, fun b M' => b = true ∧ M' = M7, r9, ⟨rfl, rfl⟩, fun b H10 M10 r10 s10 ⟨eb, em⟩ => ?_⟩
            subst eb
            subst em
            refine iteT ⟨δ9, M10, _, r10, q9, fun y H11 d M11 r11 s11 d11 q11 => ?_⟩
            obtain ⟨e11, l11, g11⟩ := q11
            obtain ⟨vs, h11, rv⟩ := r11.mem.1 D _ e11
            have st : Stb1 H11 (upd H11 D (.lst (vs ++ [y]))) := Stb1.wr (by rw [h11]; exact trivial)
            have back9 : Rl T H0 σ4 H11 δ4 M11 := ⟨r11.base, r7.env.stb (z1.trans (s10.trans s11)), r11.mem⟩
            refine ⟨vs, h11, by rw [rv.length]; exact l11, acc7 ++ [d], _, ?_, ((s7.trans z1).trans s10).trans (s11.trans st), g11⟩
            exact back9.to st (r11.mem.put (m := .lst (acc7 ++ [d])) st ⟨_, upd_same, (rv.append (.cons d11 .nil)).stb st⟩)
        · have e : j = ds1.length := by omega
          subst e
          rw [List.drop_length] at g7
          obtain ⟨gc7, gk⟩ := g7
          exact .inl ⟨ok6.stop H7 M7 s7 r7.mem gc7, acc7, M7, back r7 (s5.trans (s6.trans s7)), (s2.trans y1).trans (s5.trans (s6.trans s7)), gk⟩
    · have e : i = ds.length := by omega
      subst e
      rw [List.drop_length] at g
      obtain ⟨gc, ge, gq⟩ := g
      refine .inl ⟨ok1.stop H2 M2 s2 r2.mem gc, lock_old r2.mem ge fun v H' s m dd => ?_⟩
      exact kk _ _ _ _ (r2.to s m) ((s1.trans s2).trans s) dd gq⟩
end
end DL
namespace DL
open PySem PySem.Spec PyProof.Rows L2 NdefX
/-! ### closures: a def's inner def that is handed on; its cells are locked -/
mutual
def noClo : D → Bool
  | .tup xs => noClos xs
  | .lst xs => noClos xs
  | .dic _ xs => noClos xs
  | .clo _ _ => false
  | _ => true
def noClos : List D → Bool
  | [] => true
  | d :: ds => noClo d && noClos ds
end
open Classical in
/-- what a closure's call needs of a heap: tuples, what is locked; all else is out of its sight, so it stays -/
noncomputable def cut (H : Hp) : Hp := fun b => match H b with
  | some (.tup xs) => some (.tup xs)
  | some (.frz o (.lst xs)) => some (.frz o (.lst xs))
  | some (.frz o (.tup xs)) => some (.frz o (.tup xs))
  | some (.frz o (.dK xs)) => some (.frz o (.dK xs))
  | some (.tbl ps) => some (.tbl ps)
  | some (.ext φ) => if ∃ q, HO.ext φ = LamX.CodeO b q then some (.ext φ) else none
  | _ => none
noncomputable def join (H H' : Hp) : Hp := fun b => match cut H b with
  | some _ => H' b
  | none => match H b with
    | some o => some o
    | none => H' b
section
variable {P : Program} {w : World} {H H' : Hp} {h h' : Heap} {b : Addr} {o : HO} {T : Tx} {fs : List Addr}
theorem cut_le (e : cut H b = some o) : H b = some o := by
  unfold cut at e
  split at e
  case h_6 q => split at e <;> first | (rw [q]; exact e) | cases e
  all_goals first | (rename_i q; rw [q]; exact e) | cases e
theorem cut_none (e : H b = none) : cut H b = none := by unfold cut; rw [e]
theorem cut_tup {xs : List V} (e : H b = some (.tup xs)) : cut H b = some (.tup xs) := by unfold cut; rw [e]
theorem cut_fl {ob : Obj} {xs : List V} (e : H b = some (.frz ob (.lst xs))) : cut H b = some (.frz ob (.lst xs)) := by unfold cut; rw [e]
theorem cut_ft {ob : Obj} {xs : List V} (e : H b = some (.frz ob (.tup xs))) : cut H b = some (.frz ob (.tup xs)) := by unfold cut; rw [e]
theorem cut_fd {ob : Obj} {xs : List (Key × V)} (e : H b = some (.frz ob (.dK xs))) : cut H b = some (.frz ob (.dK xs)) := by unfold cut; rw [e]
theorem cut_tbl {ps : Array Value} (e : H b = some (.tbl ps)) : cut H b = some (.tbl ps) := by unfold cut; rw [e]
theorem cut_cod {q : Str} (e : H b = some (LamX.CodeO b q)) : cut H b = some (LamX.CodeO b q) := by
  unfold cut
  rw [e]
  exact if_pos ⟨q, rfl⟩
theorem cut_own {x : Addr} (e : H b = some (.own x)) : cut H b = none := by unfold cut; rw [e]
theorem cut_ext {ob : Obj} {φ : Heap → Prop} (e : H b = some (.frz ob (.ext φ))) : cut H b = none := by unfold cut; rw [e]
theorem cut_lst {xs : List V} (e : H b = some (.lst xs)) : cut H b = none := by unfold cut; rw [e]
theorem cut_ins {C d : Addr} {xs : List (Str × V)} (e : H b = some (.ins C d xs)) : cut H b = none := by unfold cut; rw [e]
theorem join_cut (e : cut H b ≠ none) : join H H' b = H' b := by
  unfold join
  split
  · rfl
  · rename_i q; exact absurd q e
theorem join_old (e : cut H b = none) (e2 : H b = some o) : join H H' b = some o := by unfold join; rw [e, e2]
theorem join_new (e : H b = none) : join H H' b = H' b := by unfold join; rw [cut_none e, e]
theorem SqT.cut {K : PySem.W.Frag} {a : Addr} {xs : List V} (h : SqT K H a xs) : SqT K (cut H) a xs := by
  rcases h with (h | ⟨o, h⟩) | h
  · exact .inl (.inl (cut_tup h))
  · exact .inl (.inr ⟨o, cut_ft h⟩)
  · exact .inr h
theorem FzL.cut {K : PySem.W.Frag} {a : Addr} {xs : List V} (h : FzL K H a xs) : FzL K (cut H) a xs := by
  rcases h with ⟨o, h⟩ | h
  · exact .inl ⟨o, cut_fl h⟩
  · exact .inr h
mutual
theorem Den.cutd : ∀ {v : V} {d : D}, Den T H v d → noClo d = true → Den T (cut H) v d
  | _, _, .non, _ => .non
  | _, _, .bl b, _ => .bl b
  | _, _, .int i, _ => .int i
  | _, _, .str s h, _ => .str s h
  | _, _, .ty n, _ => .ty n
  | _, _, .ref a, _ => .ref a
  | _, _, .fn j h, _ => .fn j h
  | _, _, .tup h r, n => .tup (SqT.cut h) (DenL.cutd r n)
  | _, _, .lst h r, n => .lst (FzL.cut h) (DenL.cutd r n)
  | _, _, .dic ⟨o, h⟩ hl r, n => .dic ⟨o, cut_fd h⟩ hl (DenL.cutd r n)
  | _, .clo j ws, .clo hj h hk hc r, n => by cases n
theorem DenL.cutd : ∀ {vs : List V} {ds : List D}, DenL T H vs ds → noClos ds = true → DenL T (cut H) vs ds
  | _, _, .nil, _ => .nil
  | _, _, .cons h r, n => by
    have n' := Bool.and_eq_true_iff.mp n
    exact .cons (Den.cutd h n'.1) (DenL.cutd r n'.2)
end
theorem HOk.cut (x : HOk P w H h) : HOk P w (cut H) h := fun a o e => by
  have y := x a o (cut_le e)
  unfold DL.cut at e
  split at e
  case h_6 q => split at e <;> first | (cases e; exact y) | cases e
  all_goals first | (cases e; exact y) | cases e
theorem env0_cut {K : PySem.W.Frag} {mg : Str → Option Value} {base : Heap} {A : Around} {outer : List Env} {s : Shared} (e : Env0 P w K mg base A outer s H) : Env0 P w K mg base A outer s (cut H) :=
  { e with bs := fun b o q => ⟨(e.bs b o q).1, cut_none (e.bs b o q).2⟩, frf := fun b q => cut_none (e.frf b q), hok := HOk.cut e.hok }
theorem un_join (U : Un fs [] (cut H) H' h h') : Un fs [] H (join H H') h h' where
  keep := fun b o q n hb hx => U.keep b o q (cut_none n) hb hx
  slot := fun b o q n hb hx => U.slot b o q (cut_none n) hb hx
  free := fun b o q n hx => by rw [join_new n]; exact U.free b o q (cut_none n) hx
  there := U.there
  tups := fun b xs q => by
    have c := cut_tup q
    rw [join_cut (by rw [c]; intro z; cases z)]
    exact U.tups b xs c
  frzs := fun b o u q => by
    by_cases c : cut H b = none
    · exact join_old c q
    · rw [join_cut c]
      cases c2 : DL.cut H b with
      | none => exact absurd c2 c
      | some o' =>
        have := cut_le c2
        rw [q] at this
        cases this
        exact U.frzs b o u c2
  tbls := fun b ps q => by
    have c := cut_tbl q
    rw [join_cut (by rw [c]; intro z; cases z)]
    exact U.tbls b ps c
theorem obj_there {a : Addr} {o : HO} (x : ObjOk P w H h a o) : ∃ u, h.get? a = some u := by
  cases o with
  | lst xs => exact let ⟨_, _, _, _, e⟩ := x; ⟨_, e⟩
  | tup xs => exact let ⟨_, _, _, _, e, _⟩ := x; ⟨_, e⟩
  | dK kvs => exact let ⟨_, _, _, _, _, _, _, e, _⟩ := x; ⟨_, e⟩
  | dT kvs => exact let ⟨_, _, _, _, _, _, _, e, _⟩ := x; ⟨_, e⟩
  | set S n => exact let ⟨_, _, _, _, e, _⟩ := x; ⟨_, e⟩
  | ins C dx fs => exact let ⟨_, _, _, e, _⟩ := x; ⟨_, e⟩
  | own y => exact let ⟨_, e⟩ := x; ⟨_, e⟩
  | xd fs => exact let ⟨_, ⟨_, _, _, e, _⟩, _⟩ := x; ⟨_, e⟩
  | rng lo hi => exact let ⟨_, _, _, e⟩ := x; ⟨_, e⟩
  | frz ob u => exact let ⟨e, _⟩ := x; ⟨_, e⟩
  | tbl ps => exact ⟨_, x⟩
  | met f y => exact ⟨_, x⟩
  | ext φ => exact let ⟨_, e, _⟩ := x; e
theorem join_sub (ok : HOk P w H h) (U : Un fs [] (cut H) H' h h') (e : H' b = some o) : join H H' b = some o := by
  unfold join
  split
  · exact e
  · rename_i c
    split
    · rename_i o' q
      obtain ⟨ob, hob⟩ : ∃ ob, h.get? b = some ob := by
        exact obj_there (ok b o' q)
      have := U.free b ob hob c (by simp)
      rw [this] at e; cases e
    · exact e
theorem stb_join (ok : HOk P w H h) (U : Un fs [] (cut H) H' h h') : Stb1 H' (join H H') := Stb1.of fun _ _ e => join_sub ok U e
theorem stb_old (U : Un fs [] (cut H) H' h h') (s : Stb (cut H) H') : Stb H (join H H') := ⟨(un_join U).tups, (un_join U).frzs, fun a q e => by
  have c := cut_cod e
  rw [join_cut (by rw [c]; intro z; cases z)]
  exact s.cod a q c⟩
theorem tabs_cut {ts : List NTab} (t : TabsN ts H) : TabsN ts (cut H) := fun p hp => by
  obtain ⟨ps, h1, h2, h3⟩ := t p hp
  exact ⟨ps, cut_tbl h1, h2, fun pos cv hc => let ⟨c, e, h⟩ := h3 pos cv hc; ⟨c, e, cut_cod h⟩⟩
theorem hok_join (ok : HOk P w H h) (frf : ∀ b ∈ fs, H b = none) (U : Un fs [] (cut H) H' h h') (ok' : HOk P w H' h') : HOk P w (join H H') h' := fun a o e => by
  have UJ := un_join U
  by_cases c : cut H a = none
  · cases q : H a with
    | some o' =>
      rw [join_old c q] at e
      cases e
      refine (ok a o q).stay (fun b u hb hu => ?_) (fun b hb => ?_) fun b xs hb => UJ.tups b xs hb
      · have cb : cut H b = none ∧ H b ≠ none := by
          rcases hb with rfl | hb
          · exact ⟨c, by rw [q]; intro z; cases z⟩
          · exact ⟨cut_own hb, by rw [hb]; intro z; cases z⟩
        exact U.keep b u hu cb.1 (fun z => cb.2 (frf b z)) (by simp)
      · exact join_old (cut_own hb) hb
    | none =>
      rw [join_new q] at e
      exact (ok' a o e).stay (fun b u _ hu => hu) (fun b hb => join_sub ok U hb) fun b xs hb => join_sub ok U hb
  · rw [join_cut c] at e
    exact (ok' a o e).stay (fun b u _ hu => hu) (fun b hb => join_sub ok U hb) fun b xs hb => join_sub ok U hb
theorem mem_join {M : Mem} (U : Un fs [] (cut H) H' h h') (s : Stb (cut H) H') (ok : HOk P w H h) (t : TabsN T.tabs H') (m : MemOk T H M) : MemOk T (join H H') M := ⟨fun a o e => by
  have x := m.1 a o e
  cases o with
  | lst ds => obtain ⟨vs, q, r⟩ := x; exact ⟨vs, join_old (cut_lst q) q, r.stb (stb_old U s)⟩
  | ins C fs => obtain ⟨dx, vs, q, r⟩ := x; exact ⟨dx, vs, join_old (cut_ins q) q, DenF.stb (stb_old U s) r⟩, (stb_join ok U).tabs t⟩
end
/-- what a closure of the kind j does: arguments and what it captured, then its value; nothing else -/
structure NokD (P : Program) (w : World) (K : PySem.W.Frag) (mg : Str → Option Value) (base : Heap) (T : Tx) (k j n : Nat) (ψ : List D → (D → Prop) → Prop) : Prop where
  run : ∀ (A : Around) (outer : List Env) (s : Shared) (H : Hp) (us : List Value) (vs ws : List V) (ds : List D) (q : D → Prop) (f c : Addr) (cl : List (Str × Addr)) (Q : VK), Room k A → Env0 P w K mg base A outer s H → Fz H f (FnO f (T.nF j cl c)) → H c = some (LamX.CodeO c (T.nF j cl c).qual) → ClF H cl (T.nfr j) ws → Vals vs us → vs.length = n →
    DenL T H (vs ++ ws) ds → TabsN T.tabs H → noClos ds = true → ψ ds q → (∀ v H' d, Stb H H' → (∀ M, MemOk T H M → MemOk T H' M) → Den T H' v d → q d → Q v H') →
    codeAny (model P w) A (.call (.ref f) ⟨us, []⟩) (CR (L2.CX P w) outer P w H s Q fun _ _ _ => False) s
structure CalleeN (X : Cx) (T : Tx) (j : Nat) (φ : DSp) : Prop where
  ex : ∃ (k n : Nat) (ψ : List D → (D → Prop) → Prop), NokD X.prog X.w X.K X.mg X.base T k j n ψ ∧ Room k X.A ∧ ∀ l M Q E, φ l M Q E → l.length = n + (T.nfr j).length ∧ noClos l = true ∧ ψ l fun d => Q d M
section
variable {X : Cx} {T : Tx} {H0 : Hp} {f : Addr} {φ : DSp} {j : Nat}
theorem run_clo {pins : List (Addr × Obj)} {σ : L2.St} {H : Hp} {s : Shared} {us : List Value} {vs ws : List V} {ds es : List D} {δ : Ev} {M : Mem} {Q : QD} {E : XD} {k : VK} {cl : List (Str × Addr)} {c : Addr} (C : CalleeN X T j φ) (I : Inv X pins σ H s) (r : Vals vs us)
    (hf : Fz H f (FnO f (T.nF j cl c))) (hk : H c = some (LamX.CodeO c (T.nF j cl c).qual)) (hc : ClF H cl (T.nfr j) ws) (rw_ : DenL T H ws es) (rl : Rl T H0 σ H δ M) (rd : DenL T H vs ds) (h : φ (ds ++ es) M Q E) (kk : ∀ v H' d M', Rl T H0 σ H' δ M' → Stb H H' → Den T H' v d → Q d M' → k v H') :
    wpAny (model X.prog X.w) X.A (call (.ref f) us) (EP X pins σ k) X.xe s := by
  obtain ⟨lv, n, ψ, F, hr, hi⟩ := C.ex
  obtain ⟨hl, hn, hp⟩ := hi _ _ _ _ h
  have hvl : vs.length = n := by
    rw [List.length_append, ← rd.length, ← rw_.length, hc.len] at hl
    omega
  refine wpAny_call (codeAny_mono (F.run X.A X.stack s H us vs ws (ds ++ es) (fun d => Q d M) f c cl k hr I.env0 hf hk hc r hvl (rd.append rw_) rl.mem.2 hn hp fun v H' d st hm hd hq => kk v H' d M (rl.to st (hm M rl.mem)) st hd hq) fun res s' hq => ?_)
  cases res with
  | ok fl =>
    cases fl with
    | ret u => exact I.after hq
    | next => exact hq.elim
    | brk => exact hq.elim
    | cont => exact hq.elim
  | error e =>
    obtain ⟨a, B, H', cls, d, _, _, _, _, _, _, _, z⟩ := hq
    exact z.elim
theorem fnAt_frz {pins : List (Addr × Obj)} {σ : L2.St} {H : Hp} {s : Shared} {F : NF} (I : Inv X pins σ H s) (h : Fz H f (FnO f F)) : PySem.W.FnAt f s.heap := by
  obtain ⟨o, e⟩ := h
  obtain ⟨_, ⟨od, sl, doc, pm, ctv, ho⟩, _⟩ := I.hok f _ e
  exact ⟨_, od, _, sl, ho⟩
end
end DL
namespace DL
open PySem PySem.Spec PyProof.Rows L2
/-! ### calls of the text's own defs -/
/-- the def at f may be called with the arguments that φ takes -/
structure Callee (X : Cx) (T : Tx) (f : Addr) (φ : DSp) : Prop where
  ex : ∃ (k : Nat) (fd : FuncData) (ps : List Str) (us : List Value) (dvs : List V) (dd : List D) (φ0 : DSp), FnOk X.prog X.w X.K X.mg X.base (L2.CX X.prog X.w) k f fd ps (liftSp T ps.length φ0) ∧ Room k X.A ∧ Binds X.K fd ps us ∧ Vals dvs us ∧
    (∀ H, DenL T H dvs dd) ∧ (∀ l M Q E, φ l M Q E → l.length + dvs.length = ps.length) ∧ ∀ l M Q E, φ l M Q E → φ0 (l ++ dd) M Q E
  kp : PySem.W.keepIn X.K (.ref f) = true
section
variable {X : Cx} {T : Tx} {H0 : Hp} {W : WD} {f : Addr} {φ : DSp} {x : Str} {p pos : Pos} {e : Expr} {es : List Expr} {wr : WpA}
theorem run_D {pins : List (Addr × Obj)} {σ : L2.St} {H : Hp} {s : Shared} {us : List Value} {vs : List V} {ds : List D} {δ : Ev} {M : Mem} {Q : QD} {k : VK} (C : Callee X T f φ) (tk : Takes X (liftW T H0 W)) (I : Inv X pins σ H s) (r : Vals vs us)
    (rl : Rl T H0 σ H δ M) (rd : DenL T H vs ds) (h : φ ds M Q fun x fs M' => W x fs δ M') (kk : ∀ v H' d M', Rl T H0 σ H' δ M' → Stb H H' → Den T H' v d → Q d M' → k v H') :
    wpAny (model X.prog X.w) X.A (call (.ref f) us) (EP X pins σ k) X.xe s := by
  obtain ⟨lv, fd, ps, usd, dvs, dd, φ0, F, hr, hb, hd, hdd, hl, hi⟩ := C.ex
  refine run_fnSD (E := WE (liftW T H0 W)) F hr hb hd (passAt tk σ) I r ⟨ds ++ dd, M, Q, fun x fs M' => W x fs δ M', ?_, rd.append (hdd H), rl.mem, hi _ _ _ _ h, fun v H' d M' s m dd q => kk v H' d M' (rl.to s m) s dd q, fun j d fs H' M' s m ex q => ⟨j, fs, δ, M', rfl, ex, rl.to s m, q⟩⟩
  rw [List.length_append, rd.length]
  exact hl _ _ _ _ h
theorem de_call (C : Callee X T f φ) (tk : Takes X (liftW T H0 W)) (hg : Gl X x) (hm : X.mg x = some (.ref f)) (hdb : (x == ("__debug__" : Str)) = false) (hs : notStar e = true) (hss : noStars es = true) (ha : PA X (e :: es) (liftA T H0 wr)) :
    PE X (.Call (.Name x p) (e :: es) [] pos) (liftE T H0 fun δ M Q => wr δ M fun ds M1 => φ ds M1 Q fun x fs M' => W x fs δ M') := by
  refine ⟨fun pins s σ H k I h => ?_⟩
  obtain ⟨δ, M, Q, rl, hw, kk⟩ := h
  refine wpAny_Call_Name_kw (ld_glob I hg hm ?_ hdb)
  refine PySem.W.callWith_K (h₀ := X.base) I.ok.mod.kin C.kp (thn (ha.run pos pins s σ H (fun vs H1 => ∃ ds M1, Rl T H0 σ H1 δ M1 ∧ Stb H H1 ∧ DenL T H1 vs ds ∧ φ ds M1 Q fun x fs M' => W x fs δ M') I ⟨δ, M, _, rl, hw, fun vs H1 ds M1 r1 s1 d1 q1 => ⟨ds, M1, r1, s1, d1, q1⟩⟩) fun us s1 ⟨vs, H1, I1, r, ds, M1, r1, s1, d1, q1⟩ => ⟨I1.kIn, ?_⟩) (star_ok hs) (stars_ok hss)
  exact run_D C tk I1 r r1 d1 q1 fun v H' d M' r2 s2 d2 q2 => kk v H' d M' r2 (s1.trans s2) d2 q2
theorem de_call0 (C : Callee X T f φ) (tk : Takes X (liftW T H0 W)) (hg : Gl X x) (hm : X.mg x = some (.ref f)) (hdb : (x == ("__debug__" : Str)) = false) :
    PE X (.Call (.Name x p) [] [] pos) (liftE T H0 fun δ M Q => φ [] M Q fun x fs M' => W x fs δ M') := by
  refine ⟨fun pins s σ H k I h => ?_⟩
  obtain ⟨δ, M, Q, rl, hw, kk⟩ := h
  refine wpAny_Call_Name_kw (ld_glob I hg hm ?_ hdb)
  exact PySem.W.callWith_K0 I.kIn C.kp (run_D (us := []) C tk I .nil rl .nil hw kk)
/-- f(e, ..), the slot i holds one of the text's defs or a closure -/
theorem de_calv {Γ : List DSp} {i : Nat} (C : ∀ j φ, Γ[j]? = some φ → (T.isN j = false → Callee X T (T.fA j) φ) ∧ (T.isN j = true → CalleeN X T j φ)) (tk : Takes X (liftW T H0 W)) (hN : X.N[i]? = some x) (hv : Vis X.env.scope x) (hdb : (x == ("__debug__" : Str)) = false) (hcd : (x == ("__classdict__" : Str)) = false)
    (hs : notStar e = true) (hss : noStars es = true) (ha : PA X (e :: es) (liftA T H0 wr)) :
    PE X (.Call (.Name x p) (e :: es) [] pos) (liftE T H0 fun δ M Q => opt δ[i]? fun o => opt o fun f => opt (fnOf f) fun j => opt Γ[j.1]? fun φ => wr δ M fun ds M1 => φ (ds ++ j.2) M1 Q fun x fs M' => W x fs δ M') := by
  refine ⟨fun pins s σ H k I h => ?_⟩
  obtain ⟨δ, M, Q, rl, hw, kk⟩ := h
  obtain ⟨o, e1, hw⟩ := ofOpt hw
  obtain ⟨d, rfl, hw⟩ := ofOpt hw
  obtain ⟨⟨j, es0⟩, e2, hw⟩ := ofOpt (show opt (fnOf d) fun j => opt Γ[j.1]? fun φ => wr δ M fun ds M1 => φ (ds ++ j.2) M1 Q fun x fs M' => W x fs δ M' from hw)
  obtain ⟨φ, e3, hw⟩ := ofOpt (show opt Γ[j]? fun φ => wr δ M fun ds M1 => φ (ds ++ es0) M1 Q fun x fs M' => W x fs δ M' from hw)
  have CC := C j φ e3
  obtain ⟨v, e4, hd⟩ := rl.env.get i d e1
  have cs : (∃ h : T.isN j = false, v = .ref (T.fA j) ∧ es0 = []) ∨ ∃ (f c : Addr) (cl : List (Str × Addr)) (ws : List V), v = .ref f ∧ T.isN j = true ∧ Fz H f (NdefX.FnO f (T.nF j cl c)) ∧ H c = some (LamX.CodeO c (T.nF j cl c).qual) ∧ ClF H cl (T.nfr j) ws ∧ DenL T H ws es0 := by
    cases hd with
    | fn j' h => cases e2; exact .inl ⟨h, rfl, rfl⟩
    | clo hj h hk hc r => cases e2; exact .inr ⟨_, _, _, _, rfl, hj, h, hk, hc, r⟩
    | _ => exact absurd e2 (fun z => nomatch z)
  rcases cs with ⟨hj, e5, e6⟩ | ⟨f, c, cl, ws, e5, hj, hf, hk, hc, rw_⟩
  · subst e5 e6
    have C1 := CC.1 hj
    refine wpAny_Call_Name_kw (thn ((pe_var (pos := p) hN hv hdb hcd).run pins s σ H (fun v H1 => v = .ref (T.fA j) ∧ H1 = H) I ⟨_, e4, rfl, rfl⟩) fun u s1 ⟨v, H1, I1, r1, q1⟩ => ?_)
    obtain ⟨rfl, rfl⟩ := q1
    cases r1
    refine PySem.W.callWith_K (h₀ := X.base) I.ok.mod.kin C1.kp (thn (ha.run pos pins s1 σ _ (fun vs H1' => ∃ ds M1, Rl T H0 σ H1' δ M1 ∧ Stb H1 H1' ∧ DenL T H1' vs ds ∧ φ ds M1 Q fun x fs M' => W x fs δ M') I1 ⟨δ, M, _, rl, hw, fun vs H1 ds M1 r1 s1 d1 q1 => ⟨ds, M1, r1, s1, d1, by rw [List.append_nil] at q1; exact q1⟩⟩) fun us s2 ⟨vs, H2, I2, r, ds, M1, r1, s1, d1, q1⟩ => ⟨I2.kIn, ?_⟩) (star_ok hs) (stars_ok hss)
    exact run_D C1 tk I2 r r1 d1 q1 fun v H' d M' r2 s2 d2 q2 => kk v H' d M' r2 (s1.trans s2) d2 q2
  · subst e5
    have C2 := CC.2 hj
    refine wpAny_Call_Name_kw (thn ((pe_var (pos := p) hN hv hdb hcd).run pins s σ H (fun v H1 => v = .ref f ∧ H1 = H) I ⟨_, e4, rfl, rfl⟩) fun u s1 ⟨v, H1, I1, r1, q1⟩ => ?_)
    obtain ⟨rfl, rfl⟩ := q1
    cases r1
    refine PySem.W.callWith_F (first := []) (fnAt_frz I1 hf) (thn (ha.run pos pins s1 σ _ (fun vs H1' => ∃ ds M1, Rl T H0 σ H1' δ M1 ∧ Stb H1 H1' ∧ DenL T H1' vs ds ∧ φ (ds ++ es0) M1 Q fun x fs M' => W x fs δ M') I1 ⟨δ, M, _, rl, hw, fun vs H1 ds M1 r1 s1 d1 q1 => ⟨ds, M1, r1, s1, d1, q1⟩⟩) fun us s2 ⟨vs, H2, I2, r, ds, M1, r1, s1, d1, q1⟩ => ⟨fnAt_frz I2 (hf.stb s1), ?_⟩) (star_ok hs) (stars_ok hss)
    show wpAny _ _ (call (.ref f) us) _ _ _
    exact run_clo C2 I2 r (hf.stb s1) (s1.cod _ _ hk) (hc.stb s1) (rw_.stb s1) r1 d1 q1 fun v H' d M' r2 s2 d2 q2 => kk v H' d M' r2 (s1.trans s2) d2 q2
end
/-! ### calls of built-ins, of methods of built-in types -/
section
variable {X : Cx} {T : Tx} {H0 : Hp} {x : Str} {p pos apos : Pos} {a b e : Expr} {es : List Expr} {wa wb : WpE} {wr : WpA}
theorem de_blt {bi : Bi} (hT : X.K = T.K) (hc : X.calm = true) (hg : Gl X x) (hm : X.mg x = none) (hx : x = bi.nm) (hs : notStar e = true) (hss : noStars es = true) (ha : PA X (e :: es) (liftA T H0 wr)) :
    PE X (.Call (.Name x p) (e :: es) [] pos) (liftE T H0 fun δ M Q => wr δ M fun ds M1 => wBlt bi ds M1 Q) := by
  have hn : x ≠ "__name__" := by rw [hx]; cases bi <;> decide +kernel
  have hdb : (x == ("__debug__" : Str)) = false := by rw [hx]; cases bi <;> decide +kernel
  have hv : bootBuiltins x = some bi.val := by rw [hx]; exact bi.boot
  have fin : ∀ {σ : L2.St} {H : Hp} {k : VK}, liftE T H0 (fun δ M Q => wr δ M fun ds M1 => wBlt bi ds M1 Q) σ H k → tCB (rLD T (wBlt bi)) (liftA T H0 wr) σ H k := fun {σ H k} ⟨δ, M, Q, rl, hw, kk⟩ =>
    ⟨δ, M, _, rl, hw, fun vs H1 ds M1 r1 s1 d1 q1 => ⟨ds, M1, Q, d1, r1.mem, q1, fun v H' d M' s m dd q => kk v H' d M' (r1.to s m) (s1.trans s) dd q⟩⟩
  have R := call_bi (X := X) (T := T) hT hc bi
  have ty : (∃ id, bi.val = .builtin id) ∨ ∃ t, bi.val = .type t := by cases bi <;> first | exact .inl ⟨_, rfl⟩ | exact .inr ⟨_, rfl⟩
  rcases ty with ⟨id, e⟩ | ⟨id, e⟩
  · rw [e] at R hv
    exact (pe_callB R hg hm hv ha hn hdb (star_ok hs) (stars_ok hss)).weak fun _ _ _ h => fin h
  · rw [e] at R hv
    exact (pe_callTy R hg hm hv ha hn hdb (star_ok hs) (stars_ok hss)).weak fun _ _ _ h => fin h
theorem de_app (hT : X.K = T.K) (hca : notCall a = true) (hs : notStar b = true) (hl : (apos.endLine == pos.line) = true) (ha : PE X a (liftE T H0 wa)) (hb : PE X b (liftE T H0 wb)) :
    PE X (.Call (.Attribute a "append" apos) [b] [] pos) (liftE T H0 fun δ M Q => wa δ M fun x M1 => opt (lsM M1 x) fun _ => wb δ M1 fun y M2 => wApp x y M2 Q) :=
  (pe_bm PySem.F.plainAttrs_list PySem.F.slot_list_append PySem.F.type_list_append mt_append ha (pa_cons hb pa_nil (star_ok hs)) (base_ok hca) (by rw [star_ok hs] <;> rfl) hl (star_ok hs) rfl).weak fun σ H k ⟨δ, M, Q, rl, hw, kk⟩ =>
    ⟨δ, M, _, rl, hw, fun v H1 d M1 r1 s1 d1 q1 => by
      obtain ⟨ls, e1, q1⟩ := ofOpt q1
      obtain ⟨p, vs, rfl, hq, r⟩ := lsM_ok r1.mem d1 e1
      refine ⟨.inl ⟨rfl, vs, by rw [hT]; exact hq⟩, δ, M1, _, r1, q1, fun u H2 e M2 r2 s2 d2 q2 => ?_⟩
      cases d with
      | ref p' =>
        cases d1
        obtain ⟨o, e2, q2⟩ := ofOpt (show opt (M2 p) fun o => match o with
          | .lst ds => ds.length < sizeLine ∧ Q .non (M2.put p (.lst (ds ++ [e])))
          | .ins _ _ => False from q2)
        cases o with
        | lst ds =>
          obtain ⟨q3, q4⟩ := q2
          obtain ⟨ws, h2, r3⟩ := r2.mem.1 p _ e2
          have st : Stb1 H2 (upd H2 p (.lst (ws ++ [u]))) := Stb1.wr (by rw [h2]; exact trivial)
          refine ⟨p, ws, u, rfl, rfl, h2, by rw [r3.length]; exact q3, ?_⟩
          exact kk _ _ _ _ (r2.to st (r2.mem.put (m := .lst (ds ++ [e])) st ⟨_, upd_same, (r3.append (.cons d2 .nil)).stb st⟩)) ((s1.trans s2).trans st) .non q4
        | ins c fs => exact (show False from q2).elim
      | _ => exact (show False from q2).elim⟩
theorem de_bits (hca : notCall a = true) (hl : (apos.endLine == pos.line) = true) (ha : PE X a (liftE T H0 wa)) :
    PE X (.Call (.Attribute a "bit_length" apos) [] [] pos) (liftE T H0 fun δ M Q => wa δ M fun x M1 => wBits x M1 Q) :=
  (pe_bits ha (base_ok hca) hl).weak fun σ H k ⟨δ, M, Q, rl, hw, kk⟩ =>
    ⟨δ, M, _, rl, hw, fun v H1 d M1 r1 s1 d1 q1 => by
      cases d1 with
      | int i => exact ⟨i, rfl, kk _ _ _ _ r1 s1 (.int _) q1⟩
      | _ => exact (show False from q1).elim⟩
end
end DL
namespace DL
open PySem PySem.Spec PyProof.Rows L2
mutual
inductive Sr where
  | pas
  | brk
  | cnt
  | set (i : Nat) (e : Ir)
  | asg (t : Tg) (e : Ir)
  | par (i j : Nat) (a b : Ir)
  | par3 (i j l : Nat) (a b c : Ir)
  | sub (o i e : Ir)
  | aug (i : Nat) (op : Operator) (e : Ir)
  | drp (e : Ir)
  | ret (e : Ir)
  | retN
  | ite (c : Ir) (a b : Srs)
  | whl (c : Ir) (b : Srs)
  | for_ (t : Tg) (it : It) (b : Srs)
  | rse (x : Nat)
  | try1 (b : Srs) (x : Nat) (h : Srs)
inductive Srs where
  | nil
  | cons (s : Sr) (r : Srs)
end
def wSub (o i d : D) (M : Mem) (k : Mem → Prop) : Prop := match o, i with
  | .ref p, .int n => opt (M p) fun u => match u with
    | .lst ds => opt (ixN ds.length n) fun j => k (M.put p (.lst (ds.set j d)))
    | .ins _ _ => False
  | _, _ => False
def wAug (op : Operator) (x y : D) (M : Mem) (Q : QD) : Prop := match op, x, y with
  | .Add, .int i, .int j => Q (.int (i + j)) M
  | .Add, .str a, .str b => a.length + b.length ≤ sizeLine ∧ Q (.str (a ++ b)) M
  | .Sub, .int i, .int j => Q (.int (i - j)) M
  | .Mult, .int i, .int j => IntMulOk i j ∧ Q (.int (i * j)) M
  | .FloorDiv, .int i, .int j => CDv i j ∧ Q (.int (i.fdiv j)) M
  | .Mod, .int i, .int j => j ≠ 0 ∧ Q (.int (i.fmod j)) M
  | .LShift, .int i, .int j => CShl i j ∧ Q (.int (i * 2 ^ j.toNat)) M
  | _, _, _ => False
def whlGo (c : WpT) (b : WpS) (Dn : En) (δ : Ev) (M : Mem) : Prop := ∃ Z : Nat → Ev → Mem → Prop, (∃ n, Z n δ M) ∧ ∀ n δ M, Z n δ M → c δ M fun t M1 =>
  if t = true then b { nx := fun δ' M' => ∃ n', n' < n ∧ Z n' δ' M', ct := fun δ' M' => ∃ n', n' < n ∧ Z n' δ' M', bk := Dn.nx, rt := Dn.rt } δ M1 else Dn.nx δ M1
def forGo (st : D → WpS) (ch : Mem → Prop) (Dn : En) : List D → Ev → Mem → Prop
  | [], δ, M => ch M ∧ Dn.nx δ M
  | d :: ds, δ, M => ch M ∧ st d { nx := forGo st ch Dn ds, ct := forGo st ch Dn ds, bk := Dn.nx, rt := Dn.rt } δ M
mutual
def dS (Γ : List DSp) (xm : Nat → Nat → Option Bool) : Sr → WD → WpS
  | .pas, _, E, δ, M => E.nx δ M
  | .brk, _, E, δ, M => E.bk δ M
  | .cnt, _, E, δ, M => E.ct δ M
  | .set i e, W, E, δ, M => dE Γ e W δ M fun d M1 => E.nx (δ.set i (some d)) M1
  | .asg t e, W, E, δ, M => dE Γ e W δ M fun d M1 => wTg t d M1 δ fun δ1 => E.nx δ1 M1
  | .par i j a b, W, E, δ, M => dE Γ a W δ M fun x M1 => dE Γ b W δ M1 fun y M2 => E.nx ((δ.set i (some x)).set j (some y)) M2
  | .par3 i j l a b c, W, E, δ, M => dE Γ a W δ M fun x M1 => dE Γ b W δ M1 fun y M2 => dE Γ c W δ M2 fun z M3 => E.nx (((δ.set i (some x)).set j (some y)).set l (some z)) M3
  | .sub o i e, W, E, δ, M => dE Γ e W δ M fun d M1 => dE Γ o W δ M1 fun x M2 => dE Γ i W δ M2 fun y M3 => wSub x y d M3 fun M4 => E.nx δ M4
  | .aug i op e, W, E, δ, M => opt δ[i]? fun o => opt o fun x => dE Γ e W δ M fun y M1 => wAug op x y M1 fun z M2 => E.nx (δ.set i (some z)) M2
  | .drp e, W, E, δ, M => dE Γ e W δ M fun _ M1 => E.nx δ M1
  | .ret e, W, E, δ, M => dE Γ e W δ M fun d M1 => E.rt d M1
  | .retN, _, E, _, M => E.rt .non M
  | .ite c a b, W, E, δ, M => dT Γ c W δ M fun k M1 => if k = true then dSs Γ xm a W E δ M1 else dSs Γ xm b W E δ M1
  | .whl c b, W, E, δ, M => whlGo (fun δ M Q => dT Γ c W δ M Q) (fun E δ M => dSs Γ xm b W E δ M) E δ M
  | .for_ t it b, W, E, δ, M => dI Γ it W δ M fun ds ch M1 => forGo (fun d E δ M => wTg t d M δ fun δ1 => dSs Γ xm b W E δ1 M) ch E ds δ M1
  | .rse x, W, _, δ, M => W x [] δ M
  | .try1 b x h, W, E, δ, M => dSs Γ xm b (fun j fs δ' M' => opt (xm j x) fun k => if k = true then dSs Γ xm h W0 E δ' M' else W j fs δ' M') E δ M
def dSs (Γ : List DSp) (xm : Nat → Nat → Option Bool) : Srs → WD → WpS
  | .nil, _, E, δ, M => E.nx δ M
  | .cons s r, W, E, δ, M => dS Γ xm s W { nx := fun δ' M' => dSs Γ xm r W E δ' M', rt := E.rt, bk := E.bk, ct := E.ct } δ M
end
/-! ### rules of statements -/
section
variable {X : Cx} {T : Tx} {H0 : Hp} {a b c e o i : Expr} {wa wb wc we : WpE} {pos pos' : Pos}
theorem dss_nil : PSs X [] (liftS T H0 fun E δ M => E.nx δ M) := pss_nil.weak fun D σ H ⟨δ, M, E, rl, hw, kn, _, _, _⟩ => kn σ H δ M rl (Stb.refl _) hw
theorem dss_cons {st : Stmt} {rest : List Stmt} {w r : WpS} (h1 : PS X st (liftS T H0 w)) (h2 : PSs X rest (liftS T H0 r)) :
    PSs X (st :: rest) (liftS T H0 fun E δ M => w { nx := fun δ' M' => r E δ' M', rt := E.rt, bk := E.bk, ct := E.ct } δ M) :=
  (pss_cons h1 h2).weak fun D σ H ⟨δ, M, E, rl, hw, kn, kr, kb, kc⟩ => ⟨δ, M, _, rl, hw, fun σ' H' δ' M' r1 s1 q1 =>
    ⟨δ', M', E, r1, q1, fun σ2 H2 δ2 M2 r2 s2 q2 => kn _ _ _ _ r2 (s1.trans s2) q2, fun v H2 d M2 b2 s2 m2 d2 q2 => kr _ _ _ _ b2 (s1.trans s2) m2 d2 q2, fun σ2 H2 δ2 M2 r2 s2 q2 => kb _ _ _ _ r2 (s1.trans s2) q2, fun σ2 H2 δ2 M2 r2 s2 q2 => kc _ _ _ _ r2 (s1.trans s2) q2⟩, kr, kb, kc⟩
theorem ds_pas : PS X (.Pass pos) (liftS T H0 fun E δ M => E.nx δ M) := ps_pass.weak fun D σ H ⟨δ, M, E, rl, hw, kn, _, _, _⟩ => kn σ H δ M rl (Stb.refl _) hw
theorem ds_brk : PS X (.Break pos) (liftS T H0 fun E δ M => E.bk δ M) := ps_break.weak fun D σ H ⟨δ, M, E, rl, hw, _, _, kb, _⟩ => kb σ H δ M rl (Stb.refl _) hw
theorem ds_cnt : PS X (.Continue pos) (liftS T H0 fun E δ M => E.ct δ M) := ps_continue.weak fun D σ H ⟨δ, M, E, rl, hw, _, _, _, kc⟩ => kc σ H δ M rl (Stb.refl _) hw
theorem ds_set {i : Nat} {x : Str} (hN : X.N.Nodup) (hi : X.N[i]? = some x) (hx : Loc X.env.scope x) (he : PE X e (liftE T H0 we)) (hs : swapsWith e (some (.Name x pos')) pos.line X.env = pure false) (hf : X.fn x = true ∨ X.env.scope.names.lookup x = some .local) :
    PS X (.Assign [.Name x pos'] e pos) (liftS T H0 fun E δ M => we δ M fun d M1 => E.nx (δ.set i (some d)) M1) :=
  (ps_set hN hi hx he hs hf).weak fun D σ H ⟨δ, M, E, rl, hw, kn, _, _, _⟩ => ⟨δ, M, _, rl, hw, fun v H1 d M1 r1 s1 d1 q1 => kn _ _ _ _ ⟨r1.base, r1.env.set d1 i, r1.mem⟩ s1 q1⟩
theorem ds_asg {tg : Expr} {t : Tg} (he : PE X e (liftE T H0 we)) (hg : PG X tg (liftG T H0 t)) (hs : swapsWithSole [tg] e pos.line X.env = pure false) (hw : swappedStores [tg] e X.env = pure none) (h1 : (assignEach [tg] X.env).map (·.2) = [assign tg X.env]) :
    PS X (.Assign [tg] e pos) (liftS T H0 fun E δ M => we δ M fun d M1 => wTg t d M1 δ fun δ1 => E.nx δ1 M1) :=
  (ps_asg he hg hs hw h1).weak fun D σ H ⟨δ, M, E, rl, hw, kn, _, _, _⟩ => ⟨δ, M, _, rl, hw, fun v H1 d M1 r1 s1 d1 q1 => ⟨d, δ, M1, _, r1, d1, q1, fun σ' δ' r2 _ q2 => kn _ _ _ _ r2 s1 q2⟩⟩
theorem ds_par {i j : Nat} {x y : Str} {px py pt : Pos} {kt k2 pt2} (hc : X.calm = true) (hN : X.N.Nodup) (hi : X.N[i]? = some x) (hj : X.N[j]? = some y) (hij : i ≠ j)
    (hx : X.env.scope.names.lookup x = some .local) (hy : X.env.scope.names.lookup y = some .local) (ha : PE X a (liftE T H0 wa)) (hb : PE X b (liftE T H0 wb)) (sa : notStar a = true) (sb : notStar b = true)
    (hw : swappedStores [.Tuple [.Name x px, .Name y py] kt pt] (.Tuple [a, b] k2 pt2) X.env = pure (some [x, y])) :
    PS X (.Assign [.Tuple [.Name x px, .Name y py] kt pt] (.Tuple [a, b] k2 pt2) pos) (liftS T H0 fun E δ M => wa δ M fun x M1 => wb δ M1 fun y M2 => E.nx ((δ.set i (some x)).set j (some y)) M2) :=
  (ps_par hc hN hi hj hij hx hy (pa_cons ha (pa_cons hb pa_nil (star_ok sb)) (star_ok sa)) hw).weak fun D σ H ⟨δ, M, E, rl, hw, kn, _, _, _⟩ => ⟨δ, M, _, rl, hw, fun v H1 d M1 r1 s1 d1 q1 => ⟨δ, M1, _, r1, q1, fun u H2 f M2 r2 s2 d2 q2 =>
    ⟨v, u, rfl, kn _ _ _ _ ⟨r2.base, (r2.env.set (d1.stb s2) i).set d2 j, r2.mem⟩ (s1.trans s2) q2⟩⟩⟩
theorem ds_par3 {i j l : Nat} {x y z : Str} {px py pz pt : Pos} {kt k2 pt2} (hc : X.calm = true) (hN : X.N.Nodup) (hi : X.N[i]? = some x) (hj : X.N[j]? = some y) (hl : X.N[l]? = some z) (hij : i ≠ j) (hil : i ≠ l) (hjl : j ≠ l)
    (hx : X.env.scope.names.lookup x = some .local) (hy : X.env.scope.names.lookup y = some .local) (hz : X.env.scope.names.lookup z = some .local) (ha : PE X a (liftE T H0 wa)) (hb : PE X b (liftE T H0 wb)) (hcc : PE X c (liftE T H0 wc)) (sa : notStar a = true) (sb : notStar b = true) (sc : notStar c = true)
    (hw : swappedStores [.Tuple [.Name x px, .Name y py, .Name z pz] kt pt] (.Tuple [a, b, c] k2 pt2) X.env = pure (some [x, y, z])) :
    PS X (.Assign [.Tuple [.Name x px, .Name y py, .Name z pz] kt pt] (.Tuple [a, b, c] k2 pt2) pos) (liftS T H0 fun E δ M => wa δ M fun x M1 => wb δ M1 fun y M2 => wc δ M2 fun z M3 => E.nx (((δ.set i (some x)).set j (some y)).set l (some z)) M3) :=
  (ps_par3 hc hN hi hj hl hij hil hjl hx hy hz (pa_cons ha (pa_cons hb (pa_cons hcc pa_nil (star_ok sc)) (star_ok sb)) (star_ok sa)) hw).weak fun D σ H ⟨δ, M, E, rl, hw, kn, _, _, _⟩ => ⟨δ, M, _, rl, hw, fun v H1 d M1 r1 s1 d1 q1 => ⟨δ, M1, _, r1, q1, fun u H2 f M2 r2 s2 d2 q2 => ⟨δ, M2, _, r2, q2, fun w H3 g M3 r3 s3 d3 q3 =>
    ⟨v, u, w, rfl, kn _ _ _ _ ⟨r3.base, (((r3.env.set ((d1.stb s2).stb s3) i).set (d2.stb s3) j).set d3 l), r3.mem⟩ ((s1.trans s2).trans s3) q3⟩⟩⟩⟩
theorem ds_sub {wo wi : WpE} (ho : PE X o (liftE T H0 wo)) (hi : PE X i (liftE T H0 wi)) (he : PE X e (liftE T H0 we)) (hs : swapsWithSole [.Subscript o i pos'] e pos.line X.env = pure false) (hw : swappedStores [.Subscript o i pos'] e X.env = pure none) (h1 : (assignEach [.Subscript o i pos'] X.env).map (·.2) = [assign (.Subscript o i pos') X.env])
    (hsub : ∀ v, assign (.Subscript o i pos') X.env v = (do
      let ov ← holding [v] (eval o X.env)
      let iv ← holding [v, ov] (eval i X.env)
      standAt pos'
      holding [v, ov, iv] (setItem ov iv v)
      release [v, ov, iv] [])) :
    PS X (.Assign [.Subscript o i pos'] e pos) (liftS T H0 fun E δ M => we δ M fun d M1 => wo δ M1 fun x M2 => wi δ M2 fun y M3 => wSub x y d M3 fun M4 => E.nx δ M4) :=
  (ps_asg he (pg_sub ho hi set_list hsub) hs hw h1).weak fun D σ H ⟨δ, M, E, rl, hw, kn, _, _, _⟩ => ⟨δ, M, _, rl, hw, fun v H1 d M1 r1 s1 d1 q1 => ⟨δ, M1, _, r1, q1, fun u H2 f M2 r2 s2 d2 q2 => ⟨δ, M2, _, r2, q2, fun w H3 g M3 r3 s3 d3 q3 => by
    cases d2 with
    | ref p => cases d3 with
      | int n =>
        obtain ⟨o, e2, q⟩ := ofOpt (show opt (M3 p) fun u => match u with
          | .lst ds => opt (ixN ds.length n) fun j => E.nx δ (M3.put p (.lst (ds.set j d)))
          | .ins _ _ => False from q3)
        cases o with
        | lst ds =>
          obtain ⟨j, e3, q⟩ := ofOpt (show opt (ixN ds.length n) fun j => E.nx δ (M3.put p (.lst (ds.set j d))) from q)
          obtain ⟨vs, h3, r⟩ := r3.mem.1 p _ e2
          have st : Stb1 H3 (upd H3 p (.lst (vs.set j v))) := Stb1.wr (by rw [h3]; exact trivial)
          refine ⟨p, vs, n, j, rfl, rfl, h3, by rw [r.length]; exact e3, ?_⟩
          exact kn _ _ _ _ (r3.to st (r3.mem.put (m := .lst (ds.set j d)) st ⟨_, upd_same, (DenL.set ((d1.stb s2).stb s3) j r).stb st⟩)) (((s1.trans s2).trans s3).trans st) q
        | ins c fs => exact (show False from q).elim
      | _ => exact (show False from q3).elim
    | _ => exact (show False from q3).elim⟩⟩⟩
theorem iop_fdivD : OpR X (inplaceOp .FloorDiv) (rI CDv fun i j => .int (i.fdiv j)) := opI fun _ _ _ _ _ _ _ hc q => ifloordiv_int hc.1 q (.inl hc.2)
theorem iop_mulD : OpR X (inplaceOp .Mult) (rI IntMulOk fun i j => .int (i * j)) := opI fun _ _ _ _ _ _ _ hc q => imul_int q hc
theorem iop_modD : OpR X (inplaceOp .Mod) (rI (fun _ j => j ≠ 0) fun i j => .int (i.fmod j)) := opI fun _ _ _ _ _ _ _ hc q => imod_int hc q
theorem ip_D (op : Operator) : PIp X op (rD T (wAug op)) := by
  intro pins s σ H x y v u Q I rx ry ⟨dx, dy, M, QQ, hx, hy, hm, hw, kk⟩
  have fin : ∀ {w : V} {d : D}, Den T H w d → QQ d M → Q w H := fun hd q => kk _ _ _ _ (Stb.refl _) hm hd q
  cases op with
  | Add =>
    cases hx with
    | int i => cases hy with
      | int j => exact iop_add pins s σ H _ _ v u Q I rx ry ⟨i, j, rfl, rfl, fin (.int _) hw⟩
      | _ => exact hw.elim
    | str a ha => cases hy with
      | str b hb => exact iop_add_str pins s σ H _ _ v u Q I rx ry ⟨a, b, rfl, rfl, hw.1, fin (.str _ (by rw [Str.length_append]; exact hw.1)) hw.2⟩
      | _ => exact hw.elim
    | _ => exact (show False from hw).elim
  | Sub =>
    cases hx with
    | int i => cases hy with
      | int j => exact iop_sub pins s σ H _ _ v u Q I rx ry ⟨i, j, rfl, rfl, fin (.int _) hw⟩
      | _ => exact hw.elim
    | _ => exact (show False from hw).elim
  | Mult =>
    cases hx with
    | int i => cases hy with
      | int j => exact iop_mulD pins s σ H _ _ v u Q I rx ry ⟨i, j, rfl, rfl, hw.1, fin (.int _) hw.2⟩
      | _ => exact hw.elim
    | _ => exact (show False from hw).elim
  | FloorDiv =>
    cases hx with
    | int i => cases hy with
      | int j => exact iop_fdivD pins s σ H _ _ v u Q I rx ry ⟨i, j, rfl, rfl, hw.1, fin (.int _) hw.2⟩
      | _ => exact hw.elim
    | _ => exact (show False from hw).elim
  | Mod =>
    cases hx with
    | int i => cases hy with
      | int j => exact iop_modD pins s σ H _ _ v u Q I rx ry ⟨i, j, rfl, rfl, hw.1, fin (.int _) hw.2⟩
      | _ => exact hw.elim
    | _ => exact (show False from hw).elim
  | LShift =>
    cases hx with
    | int i => cases hy with
      | int j => exact iop_shlW pins s σ H _ _ v u Q I rx ry ⟨i, j, rfl, rfl, hw.1, fin (.int _) hw.2⟩
      | _ => exact hw.elim
    | _ => exact (show False from hw).elim
  | _ => exact (show False from hw).elim
theorem ds_aug {i : Nat} {x : Str} {op : Operator} (hN : X.N.Nodup) (hi : X.N[i]? = some x) (hx : Loc X.env.scope x) (he : PE X e (liftE T H0 we)) (hf : X.fn x = true ∨ X.env.scope.names.lookup x = some .local) :
    PS X (.AugAssign (.Name x pos') op e pos) (liftS T H0 fun E δ M => opt δ[i]? fun o => opt o fun x => we δ M fun y M1 => wAug op x y M1 fun z M2 => E.nx (δ.set i (some z)) M2) :=
  (ps_aug hN hi hx he (ip_D (T := T) op) hf).weak fun D σ H ⟨δ, M, E, rl, hw, kn, _, _, _⟩ => by
    obtain ⟨o, e1, hw⟩ := ofOpt hw
    obtain ⟨d0, rfl, hw⟩ := ofOpt hw
    obtain ⟨v0, e2, hd⟩ := rl.env.get i d0 e1
    exact ⟨v0, e2, δ, M, _, rl, hw, fun v H1 d M1 r1 s1 d1 q1 => ⟨d0, d, M1, _, hd.stb s1, d1, r1.mem, q1, fun w H' f M' s m dd q => kn _ _ _ _ ⟨r1.base.trans s, (r1.env.stb s).set dd i, m⟩ (s1.trans s) q⟩⟩
theorem ds_drp (he : PE X e (liftE T H0 we)) (hs : swapsWith e none pos.line X.env = pure false) : PS X (.Expr e pos) (liftS T H0 fun E δ M => we δ M fun _ M1 => E.nx δ M1) :=
  (ps_expr he hs).weak fun D σ H ⟨δ, M, E, rl, hw, kn, _, _, _⟩ => ⟨δ, M, _, rl, hw, fun v H1 d M1 r1 s1 d1 q1 => kn _ _ _ _ r1 s1 q1⟩
theorem ds_ret (he : PE X e (liftE T H0 we)) : PS X (.Return (some e) pos) (liftS T H0 fun E δ M => we δ M fun d M1 => E.rt d M1) :=
  (ps_ret he).weak fun D σ H ⟨δ, M, E, rl, hw, _, kr, _, _⟩ => ⟨δ, M, _, rl, hw, fun v H1 d M1 r1 s1 d1 q1 => kr _ _ _ _ r1.base s1 r1.mem d1 q1⟩
theorem ds_retN : PS X (.Return none pos) (liftS T H0 fun E _ M => E.rt .non M) :=
  ps_retN.weak fun D σ H ⟨δ, M, E, rl, hw, _, kr, _, _⟩ => kr _ _ _ _ rl.base (Stb.refl _) rl.mem .non hw
theorem ds_ite {ta : WpT} {sa sb : List Stmt} {wsa wsb : WpS} (ht : PT X c (liftT T H0 ta)) (ha : PSs X sa (liftS T H0 wsa)) (hb : PSs X sb (liftS T H0 wsb)) : PS X (.If c sa sb pos) (liftS T H0 fun E δ M => ta δ M fun k M1 => if k = true then wsa E δ M1 else wsb E δ M1) :=
  (ps_if ht ha hb).weak fun D σ H ⟨δ, M, E, rl, hw, kn, kr, kb, kc⟩ => ⟨δ, M, _, rl, hw, fun b H1 M1 r1 s1 q1 => by
    have post : ∀ {w : WpS}, w E δ M1 → liftS T H0 w D σ H1 := fun q => ⟨δ, M1, E, r1, q, fun σ2 H2 δ2 M2 r2 s2 q2 => kn _ _ _ _ r2 (s1.trans s2) q2, fun v H2 d M2 b2 s2 m2 d2 q2 => kr _ _ _ _ b2 (s1.trans s2) m2 d2 q2, fun σ2 H2 δ2 M2 r2 s2 q2 => kb _ _ _ _ r2 (s1.trans s2) q2, fun σ2 H2 δ2 M2 r2 s2 q2 => kc _ _ _ _ r2 (s1.trans s2) q2⟩
    cases b with
    | true => exact iteT (post (by simpa using q1))
    | false => exact iteF (post (by simpa using q1))⟩
theorem ds_whl {ta : WpT} {sb : List Stmt} {wb : WpS} (hp : PassesOwn (model X.prog X.w) X.A X.env X.xe) (ht : PT X c (liftT T H0 ta)) (hb : PSs X sb (liftS T H0 wb)) : PS X (.While c sb [] pos) (liftS T H0 fun E δ M => whlGo ta wb E δ M) :=
  (ps_while hp ht hb).weak fun D σ H ⟨δ, M, E, rl, ⟨Z, ⟨n0, z0⟩, turn⟩, kn, kr, kb, kc⟩ => by
    refine ⟨fun n σ' H' => ∃ δ' M', Rl T H0 σ' H' δ' M' ∧ Stb H H' ∧ Z n δ' M', ⟨n0, δ, M, rl, Stb.refl _, z0⟩, ?_⟩
    rintro n σ1 H1 ⟨δ1, M1, r1, s1, z1⟩
    refine ⟨δ1, M1, _, r1, turn n δ1 M1 z1, fun b H2 M2 r2 s2 q2 => ?_⟩
    cases b with
    | true =>
      refine iteT ⟨fun σ' H' => ∃ n' δ' M', n' < n ∧ Rl T H0 σ' H' δ' M' ∧ Stb H H' ∧ Z n' δ' M', ?_, ?_⟩
      · rintro σ' H' ⟨n', δ', M', h1, h2, h3, h4⟩
        exact ⟨n', h1, δ', M', h2, h3, h4⟩
      · exact ⟨δ1, M2, { nx := fun δ' M' => ∃ n', n' < n ∧ Z n' δ' M', ct := fun δ' M' => ∃ n', n' < n ∧ Z n' δ' M', bk := E.nx, rt := E.rt }, r2, by simpa using q2, fun σ3 H3 δ3 M3 r3 s3 ⟨n', h1, h2⟩ => ⟨n', δ3, M3, h1, r3, (s1.trans s2).trans s3, h2⟩, fun v H3 d M3 b3 s3 m3 d3 q3 => kr _ _ _ _ b3 ((s1.trans s2).trans s3) m3 d3 q3,
          fun σ3 H3 δ3 M3 r3 s3 q3 => kn _ _ _ _ r3 ((s1.trans s2).trans s3) q3, fun σ3 H3 δ3 M3 r3 s3 ⟨n', h1, h2⟩ => ⟨n', δ3, M3, h1, r3, (s1.trans s2).trans s3, h2⟩⟩
    | false => exact iteF (kn _ _ _ _ r2 (s1.trans s2) (by simpa using q2))
theorem ds_for {tg iter : Expr} {t : Tg} {wi : WpI} {sb : List Stmt} {wb : WpS} (hp : PassesOwn (model X.prog X.w) X.A X.env X.xe) (hc : X.calm = true) (hi : PI X tg iter (liftI T H0 wi)) (hg : PG X tg (liftG T H0 t)) (hb : PSs X sb (liftS T H0 wb)) (hs : ∀ x, foldedSetIterable iter X.env x = pure x) :
    PS X (.For tg iter sb [] pos) (liftS T H0 fun E δ M => wi δ M fun ds ch M1 => forGo (fun d E δ M => wTg t d M δ fun δ1 => wb E δ1 M) ch E ds δ M1) :=
  (ps_for hp hc hi hg hb hs).weak fun D σ H ⟨δ, M, E, rl, hw, kn, kr, kb, kc⟩ => ⟨δ, M, _, rl, hw, fun J H1 ds ch M1 r1 s1 ok1 q1 => by
    refine ⟨fun i m σ2 H2 => m = ds.length - i ∧ i ≤ ds.length ∧ ∃ δ2 M2, Rl T H0 σ2 H2 δ2 M2 ∧ Stb H1 H2 ∧ forGo (fun d E δ M => wTg t d M δ fun δ1 => wb E δ1 M) ch E (ds.drop i) δ2 M2, ⟨_, rfl, Nat.zero_le _, δ, M1, r1, Stb.refl _, q1⟩, ?_⟩
    rintro i m σ2 H2 ⟨rfl, hi, δ2, M2, r2, s2, g⟩
    by_cases hlt : i < ds.length
    · rw [List.drop_eq_getElem_cons hlt] at g
      obtain ⟨gc, g⟩ := g
      refine .inr ⟨ok1.go i H2 M2 s2 r2.mem gc hlt, fun σ3 H3 => ∃ δ3 M3, Rl T H0 σ3 H3 δ3 M3 ∧ Stb H1 H3 ∧ forGo (fun d E δ M => wTg t d M δ fun δ1 => wb E δ1 M) ch E (ds.drop (i + 1)) δ3 M3, ?_, ?_⟩
      · rintro σ3 H3 ⟨δ3, M3, r3, s3, g3⟩
        exact ⟨_, by omega, rfl, hlt, δ3, M3, r3, s3, g3⟩
      · intro x H3 y
        obtain ⟨y1, y2, y3⟩ := ok1.yld i H2 M2 x H3 _ s2 r2.mem gc (List.getElem?_eq_getElem hlt) y
        refine ⟨_, δ2, M2, _, r2.to y1 y2, y3, g, fun σ4 δ4 r4 _ q4 => ?_⟩
        have st : Stb H H3 := (s1.trans s2).trans y1
        exact ⟨δ4, M2, _, r4, q4, fun σ5 H5 δ5 M5 r5 s5 q5 => ⟨δ5, M5, r5, (s2.trans y1).trans s5, q5⟩, fun v H5 d M5 b5 s5 m5 d5 q5 => kr _ _ _ _ b5 (st.trans s5) m5 d5 q5, fun σ5 H5 δ5 M5 r5 s5 q5 => kn _ _ _ _ r5 (st.trans s5) q5, fun σ5 H5 δ5 M5 r5 s5 q5 => ⟨δ5, M5, r5, (s2.trans y1).trans s5, q5⟩⟩
    · have e : i = ds.length := by omega
      subst e
      rw [List.drop_length] at g
      exact .inl ⟨ok1.stop H2 M2 s2 r2.mem g.1, kn _ _ _ _ r2 (s1.trans s2) g.2⟩⟩
/-- an error class of the text without an __init__ of its own -/
structure ExcOk (X : Cx) (C : Addr) (x : Str) : Prop where
  q : PySem.W.excIn X.K C He.veBase "ValueError.__new__" = true
  mg : X.mg x = some (.ref C)
  kp : PySem.W.keepIn X.K (.ref C) = true
  sb : PySem.W.subIn X.K (.ref C) (.type "BaseException") = some true
  ty : PySem.W.typeIn X.K (.ref C) = some (.type "type")
theorem ds_rse {W : WD} {j : Nat} {x m : Str} {jj : Nat} {p p2 pos2 : Pos} (hc : X.calm = true) (tk : Takes X (liftW T H0 W)) (E : ExcOk X (T.xA j) x) (hg : Gl X x) (hdb : (x == ("__debug__" : Str)) = false) :
    PS X (.Raise (some (.Call (.Name x p) [.Constant (.str m) jj p2] [] pos2)) none pos) (liftS T H0 fun _ δ M => W j [] δ M) :=
  (ps_raise hc tk (pmk_own PySem.F.excBase_ValueError E.q E.mg E.kp (raises_own E.sb E.ty) hg hdb)).weak fun D σ H ⟨δ, M, EE, rl, hw, _, _, _, _⟩ => ⟨j, [], δ, M, rfl, rfl, rl, hw⟩
theorem ds_try1 {W : WD} {x : Str} {j : Nat} {xm : Nat → Nat → Option Bool} {body suite : List Stmt} {b₀ : Stmt} {np : Pos} {tb : WD → WpS} {wh : WpS} (hT : X.K = T.K) (hs : X.stack = X.env :: X.outer) (hf : X.env.frame = some X.env.locals) (hc : Names X x (.ref (T.xA j))) (tk : Takes X (liftW T H0 W))
    (hx : ∀ i k, xm i j = some k → PySem.W.exmOne T.K (.ref (T.xA i)) (.ref (T.xA j)) = some k)
    (hb : ∀ (H0 : Hp) (W : WD) (pn : List (Addr × Obj)) (xe : Value → Shared → Prop), Takes (X.tr pn xe) (liftW T H0 W) → PassesOwn (model X.prog X.w) X.A X.env xe → PSs (X.tr pn xe) body (liftS T H0 (tb W)))
    (hsu : ∀ (H0 : Hp) (a : Addr) (oe : Obj) (cls : Value) (d : Option Addr) (pn : List (Addr × Obj)), Zc cls d oe → (∃ vs, oe.data = .fields vs) → PSs (X.suite a ((a, oe) :: pn)) (b₀ :: suite) (liftS T H0 wh)) :
    PS X (.Try body [.ExceptHandler (some (.Name x np)) none (b₀ :: suite) pos'] [] [] pos) (liftS T H0 fun E δ M => tb (fun i fs δ' M' => opt (xm i j) fun k => if k = true then wh E δ' M' else W i fs δ' M') E δ M) :=
  (ps_try_only (tb := fun WW D σ H => ∃ (W' : WD) (H0' : Hp), (∀ cls d σ H, liftW T H0' W' cls d σ H → WW cls d σ H) ∧ liftS T H0' (tb W') D σ H) (ts := fun a cls d D σ H => ∃ H0', liftS T H0' wh D σ H) hs hf hc tk
    (fun WW pn xe tk' hp => ⟨fun pins s σ H D I ⟨W', H0', imp, q⟩ => (hb H0' W' pn xe (tk'.imp imp) hp).run pins s σ H D I q⟩)
    (fun a oe cls d pn hz hf => ⟨fun pins s σ H D I ⟨H0', q⟩ => (hsu H0' a oe cls d pn hz hf).run pins s σ H D I q⟩)).weak fun D σ H ⟨δ, M, E, rl, hw, kn, kr, kb, kc⟩ => by
    have up : ∀ {σ' : L2.St} {H' : Hp} {δ' : Ev} {M' : Mem}, Rl T H σ' H' δ' M' → Rl T H0 σ' H' δ' M' := fun r => ⟨rl.base.trans r.base, r.env, r.mem⟩
    refine ⟨_, H, ?_, δ, M, E, ⟨Stb.refl _, rl.env, rl.mem⟩, hw, fun σ' H' δ' M' r s q => kn _ _ _ _ (up r) s q, fun v H' d M' b s m dd q => kr _ _ _ _ (rl.base.trans b) s m dd q, fun σ' H' δ' M' r s q => kb _ _ _ _ (up r) s q, fun σ' H' δ' M' r s q => kc _ _ _ _ (up r) s q⟩
    rintro cls d σ' H' ⟨i, fs, δ', M', rfl, ex, r, w⟩
    obtain ⟨k, e, w⟩ := ofOpt w
    refine ⟨k, by rw [hT]; exact hx i k e, fun z a na => ?_, fun z => ?_⟩
    · subst z
      refine ⟨H, δ', M', E, r, by simpa using w, fun σ2 H2 δ2 M2 r2 s2 q2 => kn _ _ _ _ (up r2) (r.base.trans s2) q2, fun v H2 d M2 b2 s2 m2 d2 q2 => kr _ _ _ _ (rl.base.trans b2) (r.base.trans s2) m2 d2 q2, fun σ2 H2 δ2 M2 r2 s2 q2 => kb _ _ _ _ (up r2) (r.base.trans s2) q2, fun σ2 H2 δ2 M2 r2 s2 q2 => kc _ _ _ _ (up r2) (r.base.trans s2) q2⟩
    · subst z
      exact ⟨i, fs, δ', M', rfl, ex, up r, by simpa using w⟩
end
end DL
namespace DL
open PySem PySem.Spec PyProof.Rows L2
/-! ### from the text to the small language -/
structure If where
  N : List Str
  fns : List (Str × Nat)
  free : List Str
  glb : List (Str × D)
  exs : List Str
  mls : List (Nat × Nat)
def ixOf (x : Str) : List Str → Option Nat
  | [] => none
  | y :: r => if x = y then some 0 else (ixOf x r).map (· + 1)
theorem ixOf_ok {x : Str} : ∀ {l : List Str} {i : Nat}, ixOf x l = some i → l[i]? = some x
  | [], _, h => by cases h
  | y :: r, i, h => by
    unfold ixOf at h
    by_cases e : x = y
    · rw [if_pos e] at h; cases h; rw [e]; rfl
    · rw [if_neg e] at h
      cases q : ixOf x r with
      | none => rw [q] at h; cases h
      | some j => rw [q] at h; cases h; show r[j]? = some x; exact ixOf_ok q
/-- the place of a callable by its name and its number of arguments (98: no callable stands there) -/
def fnIx (x : Str) (n : Nat) : List (Str × Nat) → Option Nat
  | [] => none
  | y :: r => if x = y.1 ∧ n = y.2 ∧ n ≠ 98 then some 0 else (fnIx x n r).map (· + 1)
theorem fnIx_ok {x : Str} {n : Nat} : ∀ {l : List (Str × Nat)} {i : Nat}, fnIx x n l = some i → l[i]? = some (x, n) ∧ n ≠ 98
  | [], _, h => by cases h
  | y :: r, i, h => by
    unfold fnIx at h
    by_cases e : x = y.1 ∧ n = y.2 ∧ n ≠ 98
    · rw [if_pos e] at h; cases h; exact ⟨by rw [e.1, e.2.1]; rfl, e.2.2⟩
    · rw [if_neg e] at h
      cases q : fnIx x n r with
      | none => rw [q] at h; cases h
      | some j => rw [q] at h; cases h; exact show r[j]? = some (x, n) ∧ n ≠ 98 from fnIx_ok q
def fnNm (x : Str) : List (Str × Nat) → Option Nat
  | [] => none
  | y :: r => if x = y.1 ∧ y.2 ≠ 98 then some 0 else (fnNm x r).map (· + 1)
theorem fnNm_ok {x : Str} : ∀ {l : List (Str × Nat)} {i : Nat}, fnNm x l = some i → ∃ n, l[i]? = some (x, n) ∧ n ≠ 98
  | [], _, h => by cases h
  | y :: r, i, h => by
    unfold fnNm at h
    by_cases e : x = y.1 ∧ y.2 ≠ 98
    · rw [if_pos e] at h; cases h; exact ⟨y.2, by rw [e.1]; rfl, e.2⟩
    · rw [if_neg e] at h
      cases q : fnNm x r with
      | none => rw [q] at h; cases h
      | some j => rw [q] at h; cases h; exact show ∃ n, r[j]? = some (x, n) ∧ n ≠ 98 from fnNm_ok q
def tyTab : List (Str × String) := [("int", "int"), ("bool", "bool"), ("str", "str"), ("list", "list"), ("tuple", "tuple"), ("dict", "dict")]
theorem tyTab_ok {x : Str} {t : String} (h : tyTab.lookup x = some t) : bootBuiltins x = some (.type t) ∧ x ≠ "__name__" := by
  have hm := PySem.mem_of_lookup h
  simp only [tyTab, List.mem_cons, Prod.mk.injEq, List.not_mem_nil, or_false] at hm
  rcases hm with ⟨rfl, rfl⟩ | ⟨rfl, rfl⟩ | ⟨rfl, rfl⟩ | ⟨rfl, rfl⟩ | ⟨rfl, rfl⟩ | ⟨rfl, rfl⟩ <;> decide +kernel
def seen (k : Option NameKind) : Bool := match k with
  | some .local => true
  | some .cell => true
  | some .free => true
  | _ => false
def plainNm (x : Str) : Bool := !(x == ("__debug__" : Str)) && !(x == ("__classdict__" : Str))
def trN (I : If) (sc : Scope) (x : Str) : Option Ir :=
  if plainNm x = true then
    if seen (sc.names.lookup x) = true then (ixOf x I.N).map .var
    else if sc.names.lookup x = some .globalImplicit then
      match I.glb.lookup x with
      | some d => some (.cst d)
      | none => match fnNm x I.fns with
        | some j => some (.cst (.fn j))
        | none => if x ∈ I.free then (tyTab.lookup x).map fun t => .cst (.ty t) else none
    else none
  else none
def trC : Const → Option Ir
  | .int i => some (.cst (.int i))
  | .bool b => some (.cst (.bl b))
  | .none => some (.cst .non)
  | .str s => if s.length ≤ 4096 then some (.cst (.str s)) else none
  | _ => none
def trA (f : Expr → Option Ir) : List Expr → Option Irs
  | [] => some .nil
  | e :: es => if notStar e = true then match f e, trA f es with
    | some a, some r => some (.cons a r)
    | _, _ => none else none
def mkB (op : BoolOp) (a r : Ir) : Ir := match op with
  | .And => .and a r
  | .Or => .or a r
def trB (op : BoolOp) (f : Expr → Option Ir) : List Expr → Option Ir
  | [] => none
  | [e] => f e
  | e :: es => match f e, trB op f es with
    | some a, some r => some (mkB op a r)
    | _, _ => none
def trO (f : Expr → Option Ir) : Option Expr → Option Io
  | none => some .none
  | some e => (f e).map .some
def glob (I : If) (sc : Scope) (x : Str) : Bool := plainNm x && decide (sc.names.lookup x = some .globalImplicit)
def trKV : List (Option Expr) → List Expr → Option (List (Int × Int))
  | [], [] => some []
  | some (.Constant (.int k) _ _) :: ks, .Constant (.int v) _ _ :: vs => (trKV ks vs).map ((k, v) :: ·)
  | _, _ => none
def trDg (I : If) (sc : Scope) : Expr → Expr → Option Ir
  | .Dict keys vals _, .Name x _ => if plainNm x = true ∧ seen (sc.names.lookup x) = true ∧ keys ≠ [] ∧ keys.length ≤ 15 then match trKV keys vals, ixOf x I.N with
    | some kvs, some i => some (.dgv kvs i)
    | _, _ => none else none
  | _, _ => none
def trRg (f : Expr → Option Ir) : List Expr → List Keyword → Option It
  | [a], [] => if notStar a = true then (f a).map .rng1 else none
  | [a, b], [] => if notStar a = true ∧ notStar b = true then match f a, f b with
    | some a, some b => some (.rng2 a b)
    | _, _ => none else none
  | [a, b, c], [] => if notStar a = true ∧ notStar b = true ∧ notStar c = true then match f a, f b, f c with
    | some a, some b, some c => some (.rng3 a b c)
    | _, _, _ => none else none
  | _, _ => none
def isRg (I : If) (sc : Scope) (x : Str) : Bool := decide (x = "range") && glob I sc x && decide (x ∈ I.free)
def trI (f : Expr → Option Ir) (I : If) (sc : Scope) : Expr → Option It
  | .Call (.Name x p) args kw pos => if isRg I sc x = true then trRg f args kw else (f (.Call (.Name x p) args kw pos)).map .val
  | e => if notSet e = true then (f e).map .val else none
mutual
/-- top: in a def's own body (a cell may be stored) -/
def trTg (I : If) (sc : Scope) (top : Bool) : Nat → Expr → Option Tg
  | 0, _ => none
  | n + 1, .Name x _ => if sc.names.lookup x = some .local ∨ (top = true ∧ sc.names.lookup x = some .cell) then (ixOf x I.N).map .nm else none
  | n + 1, .Tuple es _ _ => (trTgs I sc top n es).map .tup
  | n + 1, _ => none
def trTgs (I : If) (sc : Scope) (top : Bool) : Nat → List Expr → Option Tgs
  | 0, _ => none
  | n + 1, [] => some .nil
  | n + 1, e :: es => match trTg I sc top n e, trTgs I sc top n es with
    | some t, some ts => some (.cons t ts)
    | _, _ => none
end
def ownOf (N : List Str) (scope : Scope) : List (Str × Nat) := scope.names.filterMap fun y => match y.2 with
  | .local => (ixOf y.1 N).map fun i => (y.1, i)
  | .cell => (ixOf y.1 N).map fun i => (y.1, i)
  | _ => none
def trE : Nat → If → Scope → Expr → Option Ir
  | 0, _, _, _ => none
  | n + 1, I, sc, .Constant c _ _ => trC c
  | n + 1, I, sc, .Name x _ => trN I sc x
  | n + 1, I, sc, .BinOp a op b _ => match trE n I sc a, trE n I sc b with
    | some a, some b => some (.bin op a b)
    | _, _ => none
  | n + 1, I, sc, .UnaryOp op a _ => match op, trE n I sc a with
    | .USub, some a => some (.neg a)
    | .Not, some a => some (.not a)
    | _, _ => none
  | n + 1, I, sc, .BoolOp op vs _ => trB op (trE n I sc) vs
  | n + 1, I, sc, .IfExp t a b _ => match trE n I sc t, trE n I sc a, trE n I sc b with
    | some t, some a, some b => some (.ite t a b)
    | _, _, _ => none
  | n + 1, I, sc, .Compare a ops bs _ => match ops, bs with
    | [op], [b] => if notSet b = true then match trE n I sc a, trE n I sc b with
      | some a, some b => some (.cmp op a b)
      | _, _ => none else none
    | [op, op'], [b, c] => if notSet c = true then match trE n I sc a, trE n I sc b, trE n I sc c with
      | some a, some b, some c => some (.chn op op' a b c)
      | _, _, _ => none else none
    | [o1, o2, o3], [b, c, d] => if notSet d = true then match trE n I sc a, trE n I sc b, trE n I sc c, trE n I sc d with
      | some a, some b, some c, some d => some (.chn3 o1 o2 o3 a b c d)
      | _, _, _, _ => none else none
    | _, _ => none
  | n + 1, I, sc, .Tuple es _ _ => (trA (trE n I sc) es).map .tup
  | n + 1, I, sc, .List es pos => (trA (trE n I sc) es).map fun as => if (pos.line, pos.col) ∈ I.mls then .mls as else .lst as
  | n + 1, I, sc, .Subscript a b _ => match b with
    | .Slice lo hi st _ => match st with
      | none => match trE n I sc a, trO (trE n I sc) lo, trO (trE n I sc) hi with
        | some a, some l, some h => some (.slc a l h)
        | _, _, _ => none
      | some _ => none
    | b => match trDg I sc a b with
      | some r => some r
      | none => if notSlice b = true then match trE n I sc a, trE n I sc b with
        | some a, some b => some (.idx a b)
        | _, _ => none else none
  | n + 1, I, sc, .Call f args kw pos => match kw with
    | _ :: _ => none
    | [] => match f with
      | .Name x _ => if glob I sc x = true then
          match fnIx x args.length I.fns, trA (trE n I sc) args with
          | some j, some as => some (.call j as)
          | none, some (.cons a as) => match Bi.ofName x with
            | some b => if x ∈ I.free then some (.blt b (.cons a as)) else none
            | none => none
          | _, _ => none
        else if plainNm x = true ∧ seen (sc.names.lookup x) = true then
          match ixOf x I.N, trA (trE n I sc) args with
          | some i, some (.cons a as) => some (.calv i (.cons a as))
          | _, _ => none
        else none
      | .Attribute o m apos => if notCall o = true ∧ (apos.endLine == pos.line) = true then
          if m = "append" then match args with
            | [b] => if notStar b = true then match trE n I sc o, trE n I sc b with
              | some a, some b => some (.app a b)
              | _, _ => none else none
            | _ => none
          else if m = "bit_length" then match args with
            | [] => (trE n I sc o).map .bits
            | _ => none
          else none
        else none
      | _ => none
  | n + 1, I, sc, .ListComp elt gs scope _ => match gs with
    | [⟨tg, iter, ifs, as⟩] => if as = 0 ∧ notSet iter = true ∧ blkC I.N sc scope (ownOf I.N scope) = true then
        match trI (trE n I sc) I sc iter, trTg I (relS scope sc) false 8 tg, trE n I (relS scope sc) elt with
        | some it, some t, some e => if ∀ i ∈ t.slots, i ∈ (ownOf I.N scope).map (·.2) then
            match ifs with
            | [] => some (.lc it t (.cst (.bl true)) e ((ownOf I.N scope).map (·.2)))
            | [c] => (trE n I (relS scope sc) c).map fun c => .lc it t c e ((ownOf I.N scope).map (·.2))
            | _ => none
          else none
        | _, _, _ => none
      else none
    | [⟨tg, iter, [], as⟩, ⟨tg1, iter1, [], as1⟩] => if as = 0 ∧ as1 = 0 ∧ notSet iter = true ∧ notSet iter1 = true ∧ blkC I.N sc scope (ownOf I.N scope) = true then
        match trI (trE n I sc) I sc iter, trTg I (relS scope sc) false 8 tg, trI (trE n I (relS scope sc)) I (relS scope sc) iter1, trTg I (relS scope sc) false 8 tg1, trE n I (relS scope sc) elt with
        | some it, some t, some it1, some t1, some e => if (∀ i ∈ t.slots, i ∈ (ownOf I.N scope).map (·.2)) ∧ (∀ i ∈ t1.slots, i ∈ (ownOf I.N scope).map (·.2)) then some (.lc2 it t it1 t1 e ((ownOf I.N scope).map (·.2)) t1.slots) else none
        | _, _, _, _, _ => none
      else none
    | _ => none
  | _ + 1, _, _, _ => none
/-! ### where code runs: what the translation leans on -/
structure Cok (X : Cx) (T : Tx) (I : If) (Γ : List DSp) (sc : Scope) (top : Bool) : Prop where
  hT : X.K = T.K
  hN : X.N = I.N
  nd : X.N.Nodup
  hsc : X.env.scope = sc
  un : X.A.units + 65 < cLine
  calm : X.calm = true
  fns : ∀ j x n, I.fns[j]? = some (x, n) → n ≠ 98 → T.isN j = false ∧ X.mg x = some (.ref (T.fA j))
  kp : ∀ j x n, I.fns[j]? = some (x, n) → n ≠ 98 → PySem.W.keepIn X.K (.ref (T.fA j)) = true
  cal : ∀ j φ, Γ[j]? = some φ → (T.isN j = false → Callee X T (T.fA j) φ) ∧ (T.isN j = true → CalleeN X T j φ)
  free : ∀ x, x ∈ I.free → X.mg x = none
  glb : ∀ x d, (x, d) ∈ I.glb → ∃ u v, X.mg x = some u ∧ RelV v u ∧ ∀ H, Den T H v d
  fn : top = true → ∀ x, sc.names.lookup x = some .cell → X.fn x = true
section
variable {X : Cx} {T : Tx} {I : If} {Γ : List DSp} {sc : Scope} {top : Bool} {H0 : Hp} {W : WD}
theorem dt_never {e : Expr} {Γ : List DSp} {ir : Ir} (h : ∀ δ M Q, ¬ dT Γ ir W δ M Q) : PT X e (liftT T H0 (dT Γ ir W)) := ⟨fun _ _ _ _ _ _ ⟨δ, M, Q, _, q, _⟩ => (h δ M Q q).elim⟩
theorem takesW0 {X : Cx} {T : Tx} {H0 : Hp} : Takes X (liftW T H0 W0) := fun u s' x => by
  obtain ⟨_, _, _, _, _, _, _, _, _, _, _, _, _, _, _, _, _, _, _, _, _, _, _, w⟩ := x
  exact w.elim
theorem Cok.blk (C : Cok X T I Γ sc top) {scope : Scope} {s : Shared} {H : Hp} {cl : List (Str × Addr)} {c : Addr} {fp : List Addr} : Cok (X.blk s H scope (compEnvC scope cl c X.env) fp) T I Γ (relS scope sc) false where
  hT := C.hT
  hN := C.hN
  nd := C.nd
  hsc := by rw [← C.hsc]; rfl
  un := C.un
  calm := C.calm
  fns := C.fns
  kp := C.kp
  cal := fun j φ h => ⟨fun l => ⟨((C.cal j φ h).1 l).ex, ((C.cal j φ h).1 l).kp⟩, fun l => ⟨((C.cal j φ h).2 l).ex⟩⟩
  free := C.free
  glb := C.glb
  fn := fun h => nomatch h
theorem plain_ok {x : Str} (h : plainNm x = true) : (x == ("__debug__" : Str)) = false ∧ (x == ("__classdict__" : Str)) = false := by
  unfold plainNm at h
  rw [Bool.and_eq_true] at h
  exact ⟨by simpa using h.1, by simpa using h.2⟩
theorem seen_ok {x : Str} (h : seen (sc.names.lookup x) = true) : Vis sc x := by
  unfold seen at h
  unfold Vis
  split at h <;> first | simp_all | cases h
theorem glob_ok (C : Cok X T I Γ sc top) {x : Str} (h : glob I sc x = true) : Gl X x ∧ (x == ("__debug__" : Str)) = false := by
  unfold glob at h
  rw [Bool.and_eq_true] at h
  refine ⟨?_, (plain_ok h.1).1⟩
  show X.env.scope.names.lookup x = some .globalImplicit
  rw [C.hsc]
  exact of_decide_eq_true h.2
theorem trKV_ok {p : Pos} : ∀ {keys : List (Option Expr)} {vals : List Expr} {kvs : List (Int × Int)}, trKV keys vals = some kvs → PPs X p keys vals (kvE kvs) ∧ keys.all (·.isSome) = true ∧ keys.length = vals.length ∧ keys.length = kvs.length := by
  intro keys
  induction keys with
  | nil =>
    intro vals kvs h
    cases vals with
    | nil => cases h; exact ⟨pps_nil, rfl, rfl, rfl⟩
    | cons v vs => cases h
  | cons k ks ih =>
    intro vals kvs h
    unfold trKV at h
    split at h
    · rename_i e1
      cases e1
    · rename_i e1
      cases e1
      rename_i vs
      cases q : trKV ks vs with
      | none => rw [q] at h; cases h
      | some r =>
        rw [q] at h
        cases h
        obtain ⟨a1, a2, a3, a4⟩ := ih q
        exact ⟨pps_cons pe_int pe_int a1, a2, congrArg Nat.succ a3, congrArg Nat.succ a4⟩
    · cases h
theorem trDg_ok (C : Cok X T I Γ sc top) {a b : Expr} {p : Pos} {r : Ir} (h : trDg I sc a b = some r) : PE X (.Subscript a b p) (liftE T H0 (dE Γ r W)) ∧ ∃ kvs i, r = .dgv kvs i := by
  unfold trDg at h
  split at h
  · split at h
    · rename_i hc
      split at h
      · rename_i kvs i q1 q2
        cases h
        obtain ⟨a1, a2, a3, a4⟩ := trKV_ok q1
        obtain ⟨hd, hcd⟩ := plain_ok hc.1
        exact ⟨de_dgv C.un a1 a2 a3 hc.2.2.1 hc.2.2.2 (by rw [← a4]; exact hc.2.2.2) (by rw [C.hN]; exact ixOf_ok q2) (by rw [C.hsc]; exact seen_ok hc.2.1) hd hcd, _, _, rfl⟩
      · cases h
    · cases h
  · cases h
theorem trC_ok {c : Const} {k : Nat} {pos : Pos} {ir : Ir} (h : trC c = some ir) : ∃ d, ir = .cst d ∧ PE X (.Constant c k pos) (liftE T H0 fun _ M Q => Q d M) := by
  cases c with
  | int i => cases h; exact ⟨_, rfl, de_cst pe_int fun _ => .int i⟩
  | bool b => cases h; exact ⟨_, rfl, de_cst pe_bl fun _ => .bl b⟩
  | none => cases h; exact ⟨_, rfl, de_cst pe_non fun _ => .non⟩
  | str s =>
    have h' : (if s.length ≤ 4096 then some (Ir.cst (.str s)) else none) = some ir := h
    by_cases hs : s.length ≤ 4096
    · rw [if_pos hs] at h'
      cases h'
      exact ⟨_, rfl, de_cst pe_str fun _ => .str s (line4096 hs)⟩
    · rw [if_neg hs] at h'
      cases h'
  | _ => cases h
theorem trN_ok (C : Cok X T I Γ sc top) {x : Str} {pos : Pos} {ir : Ir} (h : trN I sc x = some ir) :
    (∃ i, ir = .var i ∧ PE X (.Name x pos) (liftE T H0 fun δ M Q => opt δ[i]? fun o => opt o fun d => Q d M)) ∨ ∃ d, ir = .cst d ∧ PE X (.Name x pos) (liftE T H0 fun _ M Q => Q d M) := by
  unfold trN at h
  split at h
  · rename_i hp
    obtain ⟨hd, hcd⟩ := plain_ok hp
    split at h
    · rename_i hs
      cases q : ixOf x I.N with
      | none => rw [q] at h; cases h
      | some i =>
        rw [q] at h
        cases h
        refine .inl ⟨i, rfl, de_var (by rw [C.hN]; exact ixOf_ok q) (by rw [C.hsc]; exact seen_ok hs) hd hcd⟩
    · split at h
      · rename_i hg
        have gl : Gl X x := by
          show X.env.scope.names.lookup x = some .globalImplicit
          rw [C.hsc]; exact hg
        cases q : I.glb.lookup x with
        | some d =>
          rw [q] at h
          cases h
          obtain ⟨u, v, e1, r, hden⟩ := C.glb x d (PySem.mem_of_lookup q)
          exact .inr ⟨d, rfl, de_cst (pe_glob gl e1 r hd) hden⟩
        | none =>
          rw [q] at h
          cases q2 : fnNm x I.fns with
          | some j =>
            rw [q2] at h
            cases h
            obtain ⟨n, e, hn⟩ := fnNm_ok q2
            exact .inr ⟨_, rfl, de_cst (pe_glob (v := .ref (T.fA j)) gl (C.fns j x n e hn).2 rfl hd) fun _ => .fn j (C.fns j x n e hn).1⟩
          | none =>
            rw [q2] at h
            simp only at h
            split at h
            · rename_i hf
              cases q3 : tyTab.lookup x with
              | none => rw [q3] at h; cases h
              | some t =>
                rw [q3] at h
                cases h
                obtain ⟨e1, e2⟩ := tyTab_ok q3
                exact .inr ⟨_, rfl, de_cst (pe_bltn (v := .ty t) gl (C.free x hf) e1 rfl e2 hd) fun _ => .ty t⟩
            · cases h
      · cases h
  · cases h
theorem trA_ok {f : Expr → Option Ir} (ih : ∀ e ir, f e = some ir → PE X e (liftE T H0 (dE Γ ir W))) : ∀ {es : List Expr} {as : Irs}, trA f es = some as → PA X es (liftA T H0 (dA Γ as W)) ∧ noStars es = true
  | [], as, h => by cases h; exact ⟨da_nil, rfl⟩
  | e :: es, as, h => by
    unfold trA at h
    split at h
    · rename_i hs
      split at h
      · rename_i a r q1 q2
        cases h
        obtain ⟨h1, h2⟩ := trA_ok ih q2
        exact ⟨da_cons (ih e a q1) h1 hs, by show (notStar e && noStars es) = true; rw [hs, h2] <;> rfl⟩
      · cases h
    · cases h
theorem trA_nil {f : Expr → Option Ir} {es : List Expr} (h : trA f es = some .nil) : es = [] := by
  cases es with
  | nil => rfl
  | cons e es =>
    unfold trA at h
    split at h
    · split at h <;> cases h
    · cases h
theorem trA_cons {f : Expr → Option Ir} {es : List Expr} {a : Ir} {as : Irs} (h : trA f es = some (.cons a as)) : ∃ e r, es = e :: r := by
  cases es with
  | nil => cases h
  | cons e es => exact ⟨_, _, rfl⟩
theorem pw_of_pt {e : Expr} {op : BoolOp} {pos : Pos} {t : TT} (h : PT X e t) : PW X (.BoolOp op [e] pos) t := by
  cases op with
  | And => exact pw_and1 h
  | Or => exact pw_or1 h
theorem trB_ok {f : Expr → Option Ir} {op : BoolOp} {pos : Pos} (hT : X.K = T.K) (ih : ∀ e ir, f e = some ir → PE X e (liftE T H0 (dE Γ ir W)) ∧ PT X e (liftT T H0 (dT Γ ir W))) :
    ∀ {es : List Expr} {ir : Ir}, trB op f es = some ir → PE X (.BoolOp op es pos) (liftE T H0 (dE Γ ir W)) ∧ PW X (.BoolOp op es pos) (liftT T H0 (dT Γ ir W))
  | [], _, h => by cases h
  | [e], ir, h => by
    have h' : f e = some ir := h
    exact ⟨pe_one (ih e ir h').1, pw_of_pt (ih e ir h').2⟩
  | e :: e2 :: es, ir, h => by
    unfold trB at h
    split at h
    · rename_i a r q1 q2
      obtain ⟨h1, h2⟩ := trB_ok (pos := pos) hT ih q2
      obtain ⟨g1, g2⟩ := ih e a q1
      cases op with
      | And => cases h; exact ⟨de_and hT g1 h1, dw_and g2 h2⟩
      | Or => cases h; exact ⟨de_or hT g1 h1, dw_or g2 h2⟩
    · cases h
theorem trO_ok {f : Expr → Option Ir} (ih : ∀ e ir, f e = some ir → PE X e (liftE T H0 (dE Γ ir W))) {e : Option Expr} {o : Io} (h : trO f e = some o) : PO X e (liftO T H0 (dO Γ o W)) := by
  cases e with
  | none => cases h; exact do_none
  | some e =>
    have h' : (f e).map Io.some = some o := h
    cases q : f e with
    | none => rw [q] at h'; cases h'
    | some a => rw [q] at h'; cases h'; exact do_some (ih e a q)
theorem fold_call {f : Expr} {args : List Expr} {kw : List Keyword} {pos : Pos} {env : Env} : ∀ x, foldedSetIterable (.Call f args kw pos) env x = pure x := fun _ => rfl
theorem trRg_ok {f : Expr → Option Ir} (ih : ∀ e ir, f e = some ir → PE X e (liftE T H0 (dE Γ ir W))) {args : List Expr} {kw : List Keyword} {it : It} {tg : Expr} {p pos : Pos} (gl : Gl X "range") (fr : X.mg "range" = none) (h : trRg f args kw = some it) :
    PI X tg (.Call (.Name "range" p) args kw pos) (liftI T H0 (dI Γ it W)) := by
  unfold trRg at h
  split at h
  · split at h
    · rename_i a hs
      cases q : f a with
      | none => rw [q] at h; cases h
      | some a' => rw [q] at h; cases h; exact di_rng1 gl fr hs (ih a a' q)
    · cases h
  · split at h
    · rename_i a b hs
      split at h
      · rename_i a' b' q1 q2
        cases h
        exact di_rng2 gl fr hs.1 hs.2 (ih a a' q1) (ih b b' q2)
      · cases h
    · cases h
  · split at h
    · rename_i a b c hs
      split at h
      · rename_i a' b' c' q1 q2 q3
        cases h
        exact di_rng3 gl fr hs.1 hs.2.1 hs.2.2 (ih a a' q1) (ih b b' q2) (ih c c' q3)
      · cases h
    · cases h
  · cases h
theorem trI_ok {f : Expr → Option Ir} (C : Cok X T I Γ sc top) (ih : ∀ e ir, f e = some ir → PE X e (liftE T H0 (dE Γ ir W))) {e : Expr} {it : It} {tg : Expr} (h : trI f I sc e = some it) : PI X tg e (liftI T H0 (dI Γ it W)) ∧ ∀ x, foldedSetIterable e X.env x = pure x := by
  have val : ∀ {e : Expr}, (f e).map It.val = some it → notSet e = true → PI X tg e (liftI T H0 (dI Γ it W)) ∧ ∀ x, foldedSetIterable e X.env x = pure x := fun {e} h hs => by
    cases q : f e with
    | none => rw [q] at h; cases h
    | some a => rw [q] at h; cases h; exact ⟨di_val C.hT (ih e a q), fold_ok hs⟩
  have gen : (if notSet e = true then (f e).map It.val else none) = some it → PI X tg e (liftI T H0 (dI Γ it W)) ∧ ∀ x, foldedSetIterable e X.env x = pure x := fun h => by
    split at h
    · rename_i hs; exact val h hs
    · cases h
  cases e with
  | Call g args kw pos =>
    cases g with
    | Name x p =>
      have h' : (if isRg I sc x = true then trRg f args kw else (f (.Call (.Name x p) args kw pos)).map It.val) = some it := h
      by_cases hr : isRg I sc x = true
      · rw [if_pos hr] at h'
        unfold isRg at hr
        rw [Bool.and_eq_true, Bool.and_eq_true] at hr
        obtain ⟨⟨h1, hg⟩, hf⟩ := hr
        have e1 := of_decide_eq_true h1
        subst e1
        exact ⟨trRg_ok ih (glob_ok C hg).1 (C.free _ (of_decide_eq_true hf)) h', fold_call⟩
      · rw [if_neg hr] at h'
        exact val h' rfl
    | _ => exact gen h
  | _ => exact gen h
theorem asg_each {e : Expr} {es : List Expr} {env : Env} (h : ∃ I sc top n t, trTg I sc top n e = some t) : (assignEach (e :: es) env) = (false, assign e env) :: assignEach es env := by
  obtain ⟨I, sc, top, n, t, h⟩ := h
  cases e <;> first | rfl | (cases n <;> (unfold trTg at h; cases h))
theorem trTgs_each {env : Env} : ∀ (n : Nat) {es : List Expr} {ts : Tgs}, trTgs I sc top n es = some ts → (assignEach es env).length = ts.len ∧ (assignEach es env).findIdx? (·.1) = none
  | 0, _, _, h => by unfold trTgs at h; cases h
  | n + 1, [], ts, h => by
    unfold trTgs at h
    cases h
    exact ⟨rfl, rfl⟩
  | n + 1, e :: es, ts, h => by
    unfold trTgs at h
    split at h
    · rename_i t tr q1 q2
      cases h
      obtain ⟨h1, h2⟩ := trTgs_each n q2
      rw [asg_each ⟨_, _, _, _, _, q1⟩]
      refine ⟨congrArg Nat.succ h1, ?_⟩
      rw [List.findIdx?_cons, h2] <;> rfl
    · cases h
mutual
theorem trTg_ok (C : Cok X T I Γ sc top) : ∀ (n : Nat) {e : Expr} {t : Tg}, trTg I sc top n e = some t → PG X e (liftG T H0 t)
  | 0, _, _, h => by unfold trTg at h; cases h
  | n + 1, e, t, h => by
    cases e with
    | Name x p =>
      unfold trTg at h
      split at h
      · rename_i hk
        cases q : ixOf x I.N with
        | none => rw [q] at h; cases h
        | some i =>
          rw [q] at h
          cases h
          refine tg_name C.nd (by rw [C.hN]; exact ixOf_ok q) ?_ ?_
          · rw [C.hsc]
            exact hk.elim .inl fun z => .inr z.2
          · rw [C.hsc]
            exact hk.elim .inr fun z => .inl (C.fn z.1 x z.2)
      · cases h
    | Tuple es k p =>
      unfold trTg at h
      cases q : trTgs I sc top n es with
      | none => rw [q] at h; cases h
      | some ts =>
        rw [q] at h
        cases h
        obtain ⟨h1, h2⟩ := trTgs_each (env := X.env) n q
        exact tg_tup C.hT C.calm (trTgs_ok C n q) h1 h2
    | _ => unfold trTg at h; cases h
theorem trTgs_ok (C : Cok X T I Γ sc top) : ∀ (n : Nat) {es : List Expr} {ts : Tgs}, trTgs I sc top n es = some ts → PGs X es (liftGs T H0 ts)
  | 0, _, _, h => by unfold trTgs at h; cases h
  | n + 1, [], _, h => by unfold trTgs at h; cases h; exact tgs_nil
  | n + 1, e :: es, _, h => by
    unfold trTgs at h
    split at h
    · rename_i t tr q1 q2
      cases h
      exact tgs_cons (trTg_ok C n q1) (trTgs_ok C n q2) (by rw [asg_each ⟨_, _, _, _, _, q1⟩] <;> rfl)
    · cases h
end
end
end DL
section
set_option maxHeartbeats 1000000
namespace DL
open PySem PySem.Spec PyProof.Rows L2
theorem trCall_ok {n : Nat} {X : Cx} {T : Tx} {I : If} {Γ : List DSp} {sc : Scope} {top : Bool} (C : Cok X T I Γ sc top) {H0 : Hp} {W : WD} (tk : Takes X (liftW T H0 W))
    (ih : ∀ e ir, trE n I sc e = some ir → PE X e (liftE T H0 (dE Γ ir W))) {f : Expr} {args : List Expr} {kw : List Keyword} {pos : Pos} {ir : Ir} (h : trE (n + 1) I sc (.Call f args kw pos) = some ir) :
    PE X (.Call f args kw pos) (liftE T H0 (dE Γ ir W)) ∧ PT X (.Call f args kw pos) (liftT T H0 (dT Γ ir W)) := by
  unfold trE at h
  cases kw with
  | cons _ _ => cases h
  | nil =>
    cases f with
    | Name x p =>
      simp only at h
      split at h
      · rename_i hg
        obtain ⟨gl, hdb⟩ := glob_ok C hg
        split at h
        · rename_i j as q1 q2
          cases h
          obtain ⟨jlt, mg⟩ := C.fns j x _ (fnIx_ok q1).1 (fnIx_ok q1).2
          obtain ⟨h1, h2⟩ := trA_ok ih q2
          have key : PE X (.Call (.Name x p) args [] pos) (liftE T H0 (dE Γ (.call j as) W)) := by
            cases e : Γ[j]? with
            | none =>
              have eq : ∀ δ M Q, dE Γ (.call j as) W δ M Q = dA Γ as W δ M fun ds M1 => False := fun δ M Q => by
                show (dA Γ as W δ M fun ds M1 => opt Γ[j]? fun φ => φ ds M1 Q fun x fs M' => W x fs δ M') = _
                rw [e] <;> rfl
              refine ⟨fun pins s σ H k I' ⟨δ, M, Q, rl, hw, kk⟩ => ?_⟩
              rw [eq] at hw
              cases args with
              | nil =>
                cases as with
                | nil => exact False.elim hw
                | cons a r => obtain ⟨_, _, z⟩ := trA_cons q2; cases z
              | cons e0 es =>
                rw [noStars, List.all_cons, Bool.and_eq_true] at h2
                refine wpAny_Call_Name_kw (ld_glob I' gl mg ?_ hdb)
                exact PySem.W.callWith_K (h₀ := X.base) I'.ok.mod.kin (C.kp j x _ (fnIx_ok q1).1 (fnIx_ok q1).2) (thn (h1.run pos pins s σ H (fun _ _ => False) I' ⟨δ, M, _, rl, hw, fun _ _ _ _ _ _ _ z => z⟩) fun us s1 ⟨_, _, _, _, z⟩ => z.elim) (star_ok h2.1) (stars_ok h2.2)
            | some φ =>
              have CC := (C.cal j φ e).1 jlt
              have eq : dE Γ (.call j as) W = fun δ M Q => dA Γ as W δ M fun ds M1 => φ ds M1 Q fun x fs M' => W x fs δ M' := by
                funext δ M Q
                show (dA Γ as W δ M fun ds M1 => opt Γ[j]? fun φ => φ ds M1 Q fun x fs M' => W x fs δ M') = _
                rw [e] <;> rfl
              rw [eq]
              cases args with
              | nil =>
                have : as = .nil := by
                  cases as with
                  | nil => rfl
                  | cons a r => obtain ⟨_, _, z⟩ := trA_cons q2; cases z
                subst this
                exact de_call0 CC tk gl mg hdb
              | cons e0 es =>
                rw [noStars, List.all_cons, Bool.and_eq_true] at h2
                exact de_call CC tk gl mg hdb h2.1 h2.2 h1
          exact ⟨key, dt_val C.hT key fun _ => rfl⟩
        · rename_i a as q1 q2
          split at h
          · rename_i b q3
            split at h
            · rename_i hf
              cases h
              obtain ⟨e0, es, rfl⟩ := trA_cons q2
              obtain ⟨h1, h2⟩ := trA_ok ih q2
              rw [noStars, List.all_cons, Bool.and_eq_true] at h2
              have key : PE X (.Call (.Name x p) (e0 :: es) [] pos) (liftE T H0 (dE Γ (.blt b (.cons a as)) W)) := de_blt C.hT C.calm gl (C.free x hf) (Bi.ofName_ok q3) h2.1 h2.2 h1
              exact ⟨key, dt_val C.hT key fun _ => rfl⟩
            · cases h
          · cases h
        · cases h
      · split at h
        · rename_i hp
          obtain ⟨hd, hcd⟩ := plain_ok hp.1
          split at h
          · rename_i i a as q1 q2
            cases h
            obtain ⟨e0, es, rfl⟩ := trA_cons q2
            obtain ⟨h1, h2⟩ := trA_ok ih q2
            rw [noStars, List.all_cons, Bool.and_eq_true] at h2
            have key : PE X (.Call (.Name x p) (e0 :: es) [] pos) (liftE T H0 (dE Γ (.calv i (.cons a as)) W)) :=
              de_calv C.cal tk (by rw [C.hN]; exact ixOf_ok q1) (by rw [C.hsc]; exact seen_ok hp.2) hd hcd h2.1 h2.2 h1
            exact ⟨key, dt_val C.hT key fun _ => rfl⟩
          · cases h
        · cases h
    | Attribute o m apos =>
      simp only at h
      split at h
      · rename_i hh
        split at h
        · rename_i hm
          subst hm
          split at h
          · rename_i b
            split at h
            · rename_i hs
              split at h
              · rename_i a' b' q1 q2
                cases h
                exact ⟨de_app C.hT hh.1 hs hh.2 (ih _ _ q1) (ih _ _ q2), dt_never fun _ _ _ z => z⟩
              · cases h
            · cases h
          · cases h
        · split at h
          · rename_i hm
            subst hm
            split at h
            · cases q : trE n I sc o with
              | none => rw [q] at h; cases h
              | some a => rw [q] at h; cases h; exact ⟨de_bits hh.1 hh.2 (ih _ _ q), dt_never fun _ _ _ z => z⟩
            · cases h
          · cases h
      · cases h
    | _ => cases h
theorem pts_true {X : Cx} {T : Tx} {H0 : Hp} {Γ : List DSp} {W : WD} : PTs X [] (liftT T H0 (dT Γ (.cst (.bl true)) W)) := by
  refine ⟨fun pins s σ H Q I ⟨δ, M, QQ, rl, hw, kk⟩ => ?_⟩
  exact pts_nil.run pins s σ H Q I (kk true H M rl (Stb.refl _) hw)
theorem trE_ok : ∀ (n : Nat) {X : Cx} {T : Tx} {I : If} {Γ : List DSp} {sc : Scope} {top : Bool} (C : Cok X T I Γ sc top) {H0 : Hp} {W : WD} (tk : Takes X (liftW T H0 W)) (e : Expr) (ir : Ir), trE n I sc e = some ir →
    PE X e (liftE T H0 (dE Γ ir W)) ∧ PT X e (liftT T H0 (dT Γ ir W))
  | 0, _, _, _, _, _, _, _, _, _, _, _, _, h => by unfold trE at h; cases h
  | n + 1, X, T, I, Γ, sc, top, C, H0, W, tk, e, ir, h => by
    have ih := fun e ir h => (trE_ok n C tk e ir h).1
    cases e with
    | Constant c k p =>
      obtain ⟨d, rfl, h1⟩ := trC_ok (H0 := H0) (T := T) (X := X) (k := k) (pos := p) (by unfold trE at h; exact h)
      exact ⟨h1, dt_val C.hT h1 fun _ => rfl⟩
    | Name x p =>
      rcases trN_ok (H0 := H0) (pos := p) C (by unfold trE at h; exact h) with ⟨i, rfl, h1⟩ | ⟨d, rfl, h1⟩
      · have key : PE X (.Name x p) (liftE T H0 (dE Γ (.var i) W)) := h1
        refine ⟨key, (dt_val C.hT key fun _ => rfl).weak fun σ H k ⟨δ, M, Q, rl, hw, kk⟩ => ⟨δ, M, Q, rl, hw, kk⟩⟩
      · exact ⟨h1, dt_val C.hT h1 fun _ => rfl⟩
    | BinOp a op b p =>
      unfold trE at h
      split at h
      · rename_i a' b' q1 q2
        cases h
        have key : PE X (.BinOp a op b p) (liftE T H0 (dE Γ (.bin op a' b') W)) := de_bin C.hT (ih _ _ q1) (ih _ _ q2)
        exact ⟨key, dt_val C.hT key fun _ => rfl⟩
      · cases h
    | UnaryOp op a p =>
      unfold trE at h
      split at h
      · rename_i a' q
        cases h
        exact ⟨de_neg (ih _ _ q), dt_never fun _ _ _ z => z⟩
      · rename_i a' q
        cases h
        obtain ⟨h1, h2⟩ := trE_ok n C tk _ _ q
        exact ⟨de_not C.hT h1, dt_not h2⟩
      · cases h
    | BoolOp op vs p =>
      unfold trE at h
      obtain ⟨h1, h2⟩ := trB_ok (pos := p) C.hT (fun e ir h => trE_ok n C tk e ir h) h
      exact ⟨h1, h2.pt⟩
    | IfExp t a b p =>
      unfold trE at h
      split at h
      · rename_i t' a' b' q1 q2 q3
        cases h
        exact ⟨de_ite (trE_ok n C tk _ _ q1).2 (ih _ _ q2) (ih _ _ q3), dt_never fun _ _ _ z => z⟩
      · cases h
    | Compare a ops bs p =>
      unfold trE at h
      split at h
      · split at h
        · rename_i hs
          split at h
          · rename_i a' b' q1 q2
            cases h
            exact ⟨de_cmp C.hT C.un (marks_ok hs) (ih _ _ q1) (ih _ _ q2), dt_cmp C.hT C.un (marks_ok hs) (ih _ _ q1) (ih _ _ q2)⟩
          · cases h
        · cases h
      · split at h
        · rename_i op op' b c hs
          split at h
          · rename_i a' b' c' q1 q2 q3
            cases h
            have hm : lastMarks [op, op'] [b, c] = false := marks_ok (op := op') hs
            exact ⟨de_chn C.hT C.un hm (ih _ _ q1) (ih _ _ q2) (ih _ _ q3), dt_chn C.hT C.un hm (ih _ _ q1) (ih _ _ q2) (ih _ _ q3)⟩
          · cases h
        · cases h
      · split at h
        · rename_i o1 o2 o3 b c d hs
          split at h
          · rename_i a' b' c' d' q1 q2 q3 q4
            cases h
            have hm : lastMarks [o1, o2, o3] [b, c, d] = false := marks_ok (op := o3) hs
            exact ⟨de_chn3 C.hT C.un hm (ih _ _ q1) (ih _ _ q2) (ih _ _ q3) (ih _ _ q4), dt_never fun _ _ _ z => z⟩
          · cases h
        · cases h
      · cases h
    | Tuple es k p =>
      unfold trE at h
      cases q : trA (trE n I sc) es with
      | none => rw [q] at h; cases h
      | some as => rw [q] at h; cases h; exact ⟨de_tup (trA_ok ih q).1, dt_never fun _ _ _ z => z⟩
    | List es p =>
      unfold trE at h
      cases q : trA (trE n I sc) es with
      | none => rw [q] at h; cases h
      | some as =>
        rw [q] at h
        cases h
        split
        · exact ⟨de_mls (trA_ok ih q).1, dt_never fun _ _ _ z => z⟩
        · exact ⟨de_lst (trA_ok ih q).1, dt_never fun _ _ _ z => z⟩
    | Subscript a b p =>
      unfold trE at h
      split at h
      · split at h
        · split at h
          · rename_i a' l' h' q1 q2 q3
            cases h
            exact ⟨de_slc C.hT (ih _ _ q1) (trO_ok ih q2) (trO_ok ih q3), dt_never fun _ _ _ z => z⟩
          · cases h
        · cases h
      · split at h
        · rename_i r' q0
          cases h
          obtain ⟨key, kvs, i, rfl⟩ := trDg_ok (H0 := H0) (W := W) (p := p) C q0
          exact ⟨key, dt_never fun _ _ _ z => z⟩
        · split at h
          · rename_i hs
            split at h
            · rename_i a' b' q1 q2
              cases h
              have key : PE X (.Subscript a b p) (liftE T H0 (dE Γ (.idx a' b') W)) := de_idx C.hT hs (ih _ _ q1) (ih _ _ q2)
              exact ⟨key, dt_val C.hT key fun _ => rfl⟩
            · cases h
          · cases h
    | Call f args kw p => exact trCall_ok C tk ih h
    | ListComp elt gs scope p =>
      unfold trE at h
      split at h
      · rename_i tg iter ifs as
        split at h
        · rename_i hh
          obtain ⟨rfl, hs, hb⟩ := hh
          split at h
          · rename_i it t e' q1 q2 q3
            split at h
            · rename_i hsl
              obtain ⟨g1, g2⟩ := trI_ok (tg := tg) C ih q1
              have ok : BlkOk X.N X.env.scope scope (ownOf I.N scope) := by rw [C.hN, C.hsc]; exact blkOk_by hb
              have core : ∀ {c : Ir}, (∀ (s : Shared) (H : Hp) (C : Addr) (cl : List (Str × Addr)) (fp : List Addr), PTs (X.blk s H scope (compEnvC scope cl C X.env) fp) ifs (liftT T H0 (dT Γ c W0))) →
                  PE X (.ListComp elt [⟨tg, iter, ifs, 0⟩] scope p) (liftE T H0 (dE Γ (.lc it t c e' ((ownOf I.N scope).map (·.2))) W)) := fun ht =>
                de_lc C.calm C.nd g1 ok (fun s H c cl fp => trTg_ok (C.blk (s := s) (H := H) (cl := cl) (c := c) (fp := fp)) 8 q2) ht
                  (fun s H c cl fp => (trE_ok n (C.blk (s := s) (H := H) (cl := cl) (c := c) (fp := fp)) takesW0 _ _ q3).1) g2 hsl
              split at h
              · cases h
                exact ⟨core fun _ _ _ _ _ => pts_true, dt_never fun _ _ _ z => z⟩
              · rename_i c
                cases q4 : trE n I (relS scope sc) c with
                | none => rw [q4] at h; cases h
                | some c' =>
                  rw [q4] at h
                  cases h
                  exact ⟨core fun s H c2 cl fp => pts_one (trE_ok n (C.blk (s := s) (H := H) (cl := cl) (c := c2) (fp := fp)) takesW0 _ _ q4).2, dt_never fun _ _ _ z => z⟩
              · cases h
            · cases h
          · cases h
        · cases h
      · rename_i tg iter as tg1 iter1 as1
        split at h
        · rename_i hh
          obtain ⟨rfl, rfl, hs, hs1, hb⟩ := hh
          split at h
          · rename_i it t it1 t1 e' q1 q2 q4 q5 q3
            split at h
            · rename_i hsl
              obtain ⟨g1, g2⟩ := trI_ok (tg := tg) C ih q1
              have ok : BlkOk X.N X.env.scope scope (ownOf I.N scope) := by rw [C.hN, C.hsc]; exact blkOk_by hb
              cases h
              refine ⟨de_lc2 C.calm C.nd g1 ok (fun s H c cl fp => trTg_ok (C.blk (s := s) (H := H) (cl := cl) (c := c) (fp := fp)) 8 q2)
                (fun s H c cl fp => (trI_ok (tg := tg1) (C.blk (s := s) (H := H) (cl := cl) (c := c) (fp := fp)) (fun e ir q => (trE_ok n (C.blk (s := s) (H := H) (cl := cl) (c := c) (fp := fp)) takesW0 _ _ q).1) q4).1)
                (fun s H c cl fp => trTg_ok (C.blk (s := s) (H := H) (cl := cl) (c := c) (fp := fp)) 8 q5) (fun _ _ _ _ _ => pts_true (Γ := Γ) (W := W0))
                (fun s H c cl fp => (trE_ok n (C.blk (s := s) (H := H) (cl := cl) (c := c) (fp := fp)) takesW0 _ _ q3).1) g2 (fun env x => fold_ok hs1 x) hsl.1 hsl.2, dt_never fun _ _ _ z => z⟩
            · cases h
          · cases h
        · cases h
      · cases h
    | _ => unfold trE at h; cases h
end DL
end
section
set_option maxHeartbeats 1000000
namespace DL
open PySem PySem.Spec PyProof.Rows L2
/-! ### a, b = x, y: which way it goes -/
def swNm (ts : List Expr) (sc : Scope) : List Str := ts.filterMap fun
  | .Name id pos => if sc.names.lookup id == some .local && pos.line == (ts.head?.map (·.pos.line)).getD 0 then some id else none
  | _ => none
/-- the stores are not exchanged -/
def swNo (ts vs : List Expr) (sc : Scope) : Bool := !(ts.length == 2 || ts.length == 3) || vs.length != ts.length || (noStars vs && ((swNm ts sc).length != ts.length || vs.all (foldedForSure 8)))
def swYes (ts vs : List Expr) (sc : Scope) : Bool := (ts.length == 2 || ts.length == 3) && vs.length == ts.length && noStars vs && (swNm ts sc).length == ts.length && (swNm ts sc).eraseDups.length == (swNm ts sc).length && !vs.all (foldedForSure 8) && !vs.all (constantsAlone 8)
theorem anyStar {vs : List Expr} (h : noStars vs = true) : (vs.any fun | .Starred .. => true | _ => false) = false := by
  rw [List.any_eq_false]
  intro e he
  have := List.all_eq_true.mp h e he
  cases e <;> first | exact absurd this Bool.false_ne_true | simp
theorem sw_eq {ts vs : List Expr} {k1 k2 : Nat} {p1 p2 : Pos} {env : Env} {sc : Scope} (h : env.scope = sc) : swappedStores [.Tuple ts k1 p1] (.Tuple vs k2 p2) env =
    if (!(ts.length == 2 || ts.length == 3) || vs.length != ts.length || env.blockKind != .function) = true then pure none
    else if (vs.any fun | .Starred .. => true | _ => false) = true then pure none
    else if ((swNm ts sc).length != ts.length || (swNm ts sc).eraseDups.length != (swNm ts sc).length) = true then pure none
    else if vs.all (foldedForSure 8) = true then pure none
    else if vs.all (constantsAlone 8) = true then (do unsupported "assign.tuple-of-constant-expressions:order-of-the-stores"; pure (some (swNm ts sc)))
    else pure (some (swNm ts sc)) := by
  subst h
  rfl
theorem sw_no {ts vs : List Expr} {k1 k2 : Nat} {p1 p2 : Pos} {env : Env} {sc : Scope} (hsc : env.scope = sc) (h : swNo ts vs sc = true) : swappedStores [.Tuple ts k1 p1] (.Tuple vs k2 p2) env = pure none := by
  unfold swNo at h
  rw [sw_eq hsc]
  rw [Bool.or_eq_true, Bool.or_eq_true] at h
  rcases h with (h | h) | h
  · rw [h, Bool.true_or, Bool.true_or, if_pos rfl]
  · rw [h, Bool.or_true, Bool.true_or, if_pos rfl]
  · rw [Bool.and_eq_true] at h
    obtain ⟨h1, h2⟩ := h
    rw [anyStar h1, if_neg Bool.false_ne_true]
    rw [Bool.or_eq_true] at h2
    rcases h2 with h2 | h2
    · rw [h2, Bool.true_or, if_pos rfl, ite_self]
    · rw [h2, if_pos rfl, ite_self, ite_self]
theorem sw_yes {ts vs : List Expr} {k1 k2 : Nat} {p1 p2 : Pos} {env : Env} {sc : Scope} (hsc : env.scope = sc) (hk : env.scope.kind = .function) (h : swYes ts vs sc = true) : swappedStores [.Tuple ts k1 p1] (.Tuple vs k2 p2) env = pure (some (swNm ts sc)) := by
  unfold swYes at h
  simp only [Bool.and_eq_true] at h
  obtain ⟨⟨⟨⟨⟨⟨h1, h2⟩, h3⟩, h4⟩, h5⟩, h6⟩, h7⟩ := h
  have hb : env.blockKind = .function := by unfold Env.blockKind; rw [hk]; rfl
  rw [sw_eq hsc, anyStar h3, hb]
  rw [Bool.not_eq_true'] at h6 h7
  rw [h6, h7, h1, show (vs.length != ts.length) = false from by rw [bne, h2]; rfl, show ((swNm ts sc).length != ts.length) = false from by rw [bne, h4]; rfl, show ((swNm ts sc).eraseDups.length != (swNm ts sc).length) = false from by rw [bne, h5]; rfl]
  rfl
theorem sw_tup {t e : Expr} {env : Env} (h : ∀ vs k p, e ≠ .Tuple vs k p) : swappedStores [t] e env = pure none := by
  unfold swappedStores
  cases e <;> first | exact absurd rfl (h _ _ _) | (cases t <;> rfl)
theorem sw_tgt {t e : Expr} {env : Env} (h : ∀ vs k p, t ≠ .Tuple vs k p) (h2 : ∀ vs p, t ≠ .List vs p) : swappedStores [t] e env = pure none := by
  unfold swappedStores
  cases t <;> first | exact absurd rfl (h _ _ _) | exact absurd rfl (h2 _ _) | rfl
end DL
end
section
set_option maxHeartbeats 1000000
namespace DL
open PySem PySem.Spec PyProof.Rows L2
/-- what may stand in a handler: names and constants -/
def trL (I : If) (sc : Scope) : Expr → Option Ir
  | .Constant c _ _ => trC c
  | .Name x _ => if plainNm x = true ∧ seen (sc.names.lookup x) = true then (ixOf x I.N).map .var else none
  | _ => none
def trH1 (I : If) (sc : Scope) : Stmt → Option Sr
  | .Pass _ => some .pas
  | .Continue _ => some .cnt
  | .Return (some (.Constant c _ _)) _ => (trC c).map .ret
  | .Expr (.Call (.Attribute o m apos) [b] [] pos) _ => if m = "append" ∧ notCall o = true ∧ (apos.endLine == pos.line) = true ∧ notStar b = true then match trL I sc o, trL I sc b with
    | some a, some b => some (.drp (.app a b))
    | _, _ => none else none
  | .Assign [.Name x _] (.BinOp a op b _) _ => if sc.names.lookup x = some .local then match ixOf x I.N, trL I sc a, trL I sc b with
    | some i, some a, some b => some (.set i (.bin op a b))
    | _, _, _ => none else none
  | _ => none
def trH (I : If) (sc : Scope) : List Stmt → Option Srs
  | [] => some .nil
  | s :: r => match trH1 I sc s, trH I sc r with
    | some a, some b => some (.cons a b)
    | _, _ => none
/-- a, b = x, y and a, b, c = x, y, z with plain locals -/
def trPar (f : Expr → Option Ir) (I : If) : List Str → List Expr → Option Sr
  | [x, y], [a, b] => match ixOf x I.N, ixOf y I.N, f a, f b with
    | some i, some j, some a, some b => if i ≠ j then some (.par i j a b) else none
    | _, _, _, _ => none
  | [x, y, z], [a, b, c] => match ixOf x I.N, ixOf y I.N, ixOf z I.N, f a, f b, f c with
    | some i, some j, some l, some a, some b, some c => if i ≠ j ∧ i ≠ l ∧ j ≠ l then some (.par3 i j l a b c) else none
    | _, _, _, _, _, _ => none
  | _, _ => none
def nmOf : List Expr → List Str
  | [] => []
  | .Name x _ :: r => x :: nmOf r
  | _ :: r => nmOf r
def trAs (n : Nat) (I : If) (sc : Scope) (tg e : Expr) : Option Sr := match tg with
  | .Name x _ => if notComp e = true ∧ (sc.names.lookup x = some .local ∨ sc.names.lookup x = some .cell) then match ixOf x I.N, trE n I sc e with
    | some i, some e => some (.set i e)
    | _, _ => none else none
  | .Tuple ts k p => match e with
    | .Tuple vs _ _ => if swYes ts vs sc = true ∧ nmOf ts = swNm ts sc ∧ ts.length = (swNm ts sc).length then trPar (trE n I sc) I (swNm ts sc) vs
      else if swNo ts vs sc = true then match trTg I sc true 8 (.Tuple ts k p), trE n I sc e with
        | some t, some e => some (.asg t e)
        | _, _ => none
      else none
    | e => if notComp e = true then match trTg I sc true 8 (.Tuple ts k p), trE n I sc e with
      | some t, some e => some (.asg t e)
      | _, _ => none else none
  | .Subscript o i _ => if notComp e = true ∧ notSlice i = true then match trE n I sc o, trE n I sc i, trE n I sc e with
    | some o, some i, some e => some (.sub o i e)
    | _, _, _ => none else none
  | _ => none
def trRs (I : If) (sc : Scope) : Expr → Option Sr
  | .Call (.Name x _) [.Constant (.str _) _ _] [] _ => if glob I sc x = true then (ixOf x I.exs).map .rse else none
  | _ => none
mutual
def trS : Nat → If → Scope → Stmt → Option Sr
  | 0, _, _, _ => none
  | n + 1, I, sc, .Pass _ => some .pas
  | n + 1, I, sc, .Break _ => some .brk
  | n + 1, I, sc, .Continue _ => some .cnt
  | n + 1, I, sc, .Return e _ => match e with
    | none => some .retN
    | some e => (trE n I sc e).map .ret
  | n + 1, I, sc, .Expr e _ => if notComp e = true then (trE n I sc e).map .drp else none
  | n + 1, I, sc, .If c a b _ => match trE n I sc c, trSs n I sc a, trSs n I sc b with
    | some c, some a, some b => some (.ite c a b)
    | _, _, _ => none
  | n + 1, I, sc, .While c a b _ => match b, trE n I sc c, trSs n I sc a with
    | [], some c, some a => some (.whl c a)
    | _, _, _ => none
  | n + 1, I, sc, .For tg it a b _ => match b, trTg I sc true 8 tg, trI (trE n I sc) I sc it, trSs n I sc a with
    | [], some t, some it, some a => some (.for_ t it a)
    | _, _, _, _ => none
  | n + 1, I, sc, .Assign ts e _ => match ts with
    | [t] => trAs n I sc t e
    | _ => none
  | n + 1, I, sc, .AugAssign t op e _ => match t with
    | .Name x _ => if sc.names.lookup x = some .local ∨ sc.names.lookup x = some .cell then match ixOf x I.N, trE n I sc e with
      | some i, some e => some (.aug i op e)
      | _, _ => none else none
    | _ => none
  | n + 1, I, sc, .Raise e c _ => match e, c with
    | some e, none => trRs I sc e
    | _, _ => none
  | n + 1, I, sc, .Try b hs o f _ => match hs, o, f with
    | [.ExceptHandler (some (.Name x _)) none (b0 :: su) _], [], [] => if glob I sc x = true then match trSs n I sc b, ixOf x I.exs, trH I sc (b0 :: su) with
      | some b, some j, some h => some (.try1 b j h)
      | _, _, _ => none else none
    | _, _, _ => none
  | _ + 1, _, _, _ => none
def trSs : Nat → If → Scope → List Stmt → Option Srs
  | 0, _, _, _ => none
  | n + 1, I, sc, [] => some .nil
  | n + 1, I, sc, s :: r => match trS n I sc s, trSs n I sc r with
    | some a, some b => some (.cons a b)
    | _, _ => none
end
structure Sok (X : Cx) (T : Tx) (I : If) (Γ : List DSp) (xm : Nat → Nat → Option Bool) (sc : Scope) : Prop where
  c : Cok X T I Γ sc true
  po : PassesOwn (model X.prog X.w) X.A X.env X.xe
  stk : X.stack = X.env :: X.outer
  frm : X.env.frame = some X.env.locals
  kind : X.env.scope.kind = .function
  exc : ∀ j x, I.exs[j]? = some x → ExcOk X (T.xA j) x
  xm : ∀ i j k, xm i j = some k → PySem.W.exmOne T.K (.ref (T.xA i)) (.ref (T.xA j)) = some k
section
variable {X : Cx} {T : Tx} {I : If} {Γ : List DSp} {xm : Nat → Nat → Option Bool} {sc : Scope} {H0 : Hp} {W : WD}
structure Lok (X : Cx) (T : Tx) (I : If) (sc : Scope) : Prop where
  hT : X.K = T.K
  hN : X.N = I.N
  nd : X.N.Nodup
  hsc : X.env.scope = sc
theorem trL_ok (L : Lok X T I sc) {e : Expr} {ir : Ir} (h : trL I sc e = some ir) : PE X e (liftE T H0 (dE Γ ir W)) := by
  unfold trL at h
  split at h
  · obtain ⟨d, rfl, h1⟩ := trC_ok (X := X) (T := T) (H0 := H0) h
    exact h1
  · split at h
    · rename_i hh
      obtain ⟨hd, hcd⟩ := plain_ok hh.1
      cases q : ixOf _ I.N with
      | none => rw [q] at h; cases h
      | some i =>
        rw [q] at h
        cases h
        exact de_var (by rw [L.hN]; exact ixOf_ok q) (by rw [L.hsc]; exact seen_ok hh.2) hd hcd
    · cases h
  · cases h
theorem trH1_ok (L : Lok X T I sc) {s : Stmt} {r : Sr} (h : trH1 I sc s = some r) : PS X s (liftS T H0 (dS Γ xm r W)) := by
  unfold trH1 at h
  split at h
  · cases h; exact ds_pas
  · cases h; exact ds_cnt
  · rename_i c k p p2
    cases q : trC c with
    | none => rw [q] at h; cases h
    | some ir =>
      rw [q] at h
      cases h
      obtain ⟨d, rfl, h1⟩ := trC_ok (X := X) (T := T) (H0 := H0) (k := k) (pos := p) q
      exact ds_ret h1
  · split at h
    · rename_i hh
      obtain ⟨rfl, h1, h2, h3⟩ := hh
      split at h
      · rename_i a b q1 q2
        cases h
        exact ds_drp (we := dE Γ (.app a b) W) (de_app L.hT h1 h3 h2 (trL_ok L q1) (trL_ok L q2)) (swaps_ok rfl)
      · cases h
    · cases h
  · split at h
    · rename_i hh
      split at h
      · rename_i i a b q1 q2 q3
        cases h
        exact ds_set (we := dE Γ (.bin _ a b) W) L.nd (by rw [L.hN]; exact ixOf_ok q1) (by rw [L.hsc]; exact .inl hh) (de_bin L.hT (trL_ok L q2) (trL_ok L q3)) (swaps_ok rfl) (by rw [L.hsc]; exact .inr hh)
      · cases h
    · cases h
  · cases h
theorem trH_ok (L : Lok X T I sc) : ∀ {l : List Stmt} {r : Srs}, trH I sc l = some r → PSs X l (liftS T H0 (dSs Γ xm r W))
  | [], _, h => by cases h; exact dss_nil
  | s :: l, r, h => by
    unfold trH at h
    split at h
    · rename_i a b q1 q2
      cases h
      exact dss_cons (w := dS Γ xm a W) (r := dSs Γ xm b W) (trH1_ok L q1) (trH_ok L q2)
    · cases h
theorem nm_one {ts : List Expr} {e : Expr} {x : Str} {l : List Str} (h : nmOf (e :: ts) = x :: l) (hl : ts.length = l.length) (hle : ∀ ts : List Expr, (nmOf ts).length ≤ ts.length) : ∃ p, e = .Name x p ∧ nmOf ts = l := by
  cases e with
  | Name y p =>
    have h' : y :: nmOf ts = x :: l := h
    injection h' with h1 h2
    subst h1
    exact ⟨p, rfl, h2⟩
  | _ =>
    have h' : nmOf ts = x :: l := h
    have := hle ts
    rw [h', List.length_cons] at this
    omega
theorem nm_le : ∀ ts : List Expr, (nmOf ts).length ≤ ts.length
  | [] => Nat.le_refl _
  | e :: ts => by
    have ih := nm_le ts
    cases e with
    | Name x p => show (nmOf ts).length + 1 ≤ _; exact Nat.succ_le_succ ih
    | _ => show (nmOf ts).length ≤ _; exact Nat.le_succ_of_le ih
theorem nm_local {ts : List Expr} {sc : Scope} {x : Str} (h : x ∈ swNm ts sc) : sc.names.lookup x = some .local := by
  unfold swNm at h
  rw [List.mem_filterMap] at h
  obtain ⟨e, _, h⟩ := h
  cases e with
  | Name y p =>
    have h' : (if (sc.names.lookup y == some .local && p.line == (ts.head?.map (·.pos.line)).getD 0) = true then some y else none) = some x := h
    split at h'
    · rename_i hc
      cases h'
      rw [Bool.and_eq_true] at hc
      exact eq_of_beq hc.1
    · cases h'
  | _ => cases h
theorem sub_asg {o i : Expr} {p : Pos} {env : Env} (h : notSlice i = true) (v : Value) : assign (.Subscript o i p) env v = (do
      let ov ← holding [v] (eval o env)
      let iv ← holding [v, ov] (eval i env)
      standAt p
      holding [v, ov, iv] (setItem ov iv v)
      release [v, ov, iv] []) := by
  cases i <;> first | rfl | cases h
theorem trAs_ok {n : Nat} (S : Sok X T I Γ xm sc) (tk : Takes X (liftW T H0 W)) {tg e : Expr} {r : Sr} {pos : Pos} (h : trAs n I sc tg e = some r) : PS X (.Assign [tg] e pos) (liftS T H0 (dS Γ xm r W)) := by
  have C := S.c
  have ih := fun e ir h => (trE_ok n C tk e ir h).1
  unfold trAs at h
  split at h
  · rename_i x p
    split at h
    · rename_i hh
      split at h
      · rename_i i a q1 q2
        cases h
        exact ds_set C.nd (by rw [C.hN]; exact ixOf_ok q1) (by rw [C.hsc]; exact hh.2) (ih _ _ q2) (swaps_ok hh.1) (by rw [C.hsc]; exact hh.2.elim .inr fun z => .inl (C.fn rfl x z))
      · cases h
    · cases h
  · rename_i ts k p
    have gen : ∀ {t : Tg} {a : Ir}, notComp e = true → trTg I sc true 8 (.Tuple ts k p) = some t → trE n I sc e = some a → swappedStores [.Tuple ts k p] e X.env = pure none → PS X (.Assign [.Tuple ts k p] e pos) (liftS T H0 (dS Γ xm (.asg t a) W)) := fun hc q1 q2 hsw =>
      ds_asg (ih _ _ q2) (trTg_ok C 8 q1) (show swapsWith e (some (.Tuple ts k p)) pos.line X.env = pure false from swaps_ok hc) hsw rfl
    split at h
    · rename_i vs k2 p2
      split at h
      · rename_i hh
        obtain ⟨h1, h2, h3⟩ := hh
        have hw := sw_yes (k1 := k) (k2 := k2) (p1 := p) (p2 := p2) C.hsc S.kind h1
        have hst : noStars vs = true := by
          unfold swYes at h1
          simp only [Bool.and_eq_true] at h1
          exact h1.1.1.1.1.2
        have hloc : ∀ x, x ∈ swNm ts sc → sc.names.lookup x = some .local := fun x hx => nm_local hx
        unfold trPar at h
        split at h
        · rename_i x y a b hnm
          rw [hnm] at h2 h3 hloc hw
          obtain ⟨t1, ts', rfl⟩ : ∃ a b, ts = [a, b] := by
            match ts, h3 with
            | [a, b], _ => exact ⟨_, _, rfl⟩
          obtain ⟨px, rfl, h2'⟩ := nm_one h2 rfl nm_le
          obtain ⟨py, rfl, _⟩ := nm_one h2' rfl nm_le
          split at h
          · rename_i i j a' b' q1 q2 q3 q4
            split at h
            · rename_i hij
              cases h
              have hs2 : notStar a = true ∧ notStar b = true := by
                have : (notStar a && (notStar b && true)) = true := hst
                simpa [Bool.and_eq_true] using this
              exact ds_par C.calm C.nd (by rw [C.hN]; exact ixOf_ok q1) (by rw [C.hN]; exact ixOf_ok q2) hij (by rw [C.hsc]; exact hloc x (by simp)) (by rw [C.hsc]; exact hloc y (by simp)) (ih _ _ q3) (ih _ _ q4) hs2.1 hs2.2 hw
            · cases h
          · cases h
        · rename_i x y z a b c hnm
          rw [hnm] at h2 h3 hloc hw
          obtain ⟨t1, t2, t3, rfl⟩ : ∃ a b c, ts = [a, b, c] := by
            match ts, h3 with
            | [a, b, c], _ => exact ⟨_, _, _, rfl⟩
          obtain ⟨px, rfl, h2'⟩ := nm_one h2 rfl nm_le
          obtain ⟨py, rfl, h2''⟩ := nm_one h2' rfl nm_le
          obtain ⟨pz, rfl, _⟩ := nm_one h2'' rfl nm_le
          split at h
          · rename_i i j l a' b' c' q1 q2 q3 q4 q5 q6
            split at h
            · rename_i hij
              cases h
              have hs2 : notStar a = true ∧ notStar b = true ∧ notStar c = true := by
                have : (notStar a && (notStar b && (notStar c && true))) = true := hst
                simpa [Bool.and_eq_true] using this
              exact ds_par3 C.calm C.nd (by rw [C.hN]; exact ixOf_ok q1) (by rw [C.hN]; exact ixOf_ok q2) (by rw [C.hN]; exact ixOf_ok q3) hij.1 hij.2.1 hij.2.2 (by rw [C.hsc]; exact hloc x (by simp)) (by rw [C.hsc]; exact hloc y (by simp)) (by rw [C.hsc]; exact hloc z (by simp))
                (ih _ _ q4) (ih _ _ q5) (ih _ _ q6) hs2.1 hs2.2.1 hs2.2.2 hw
            · cases h
          · cases h
        · cases h
      · split at h
        · rename_i hn
          split at h
          · rename_i t a q1 q2
            cases h
            exact gen rfl q1 q2 (sw_no C.hsc hn)
          · cases h
        · cases h
    · rename_i hnt
      split at h
      · rename_i hc
        split at h
        · rename_i t a q1 q2
          cases h
          exact gen hc q1 q2 (sw_tup fun vs k p z => hnt vs k p z)
        · cases h
      · cases h
  · rename_i o i p
    split at h
    · rename_i hh
      split at h
      · rename_i o' i' e' q1 q2 q3
        cases h
        exact ds_sub (ih _ _ q1) (ih _ _ q2) (ih _ _ q3) (show swapsWith e (some (.Subscript o i p)) pos.line X.env = pure false from swaps_ok hh.1) (sw_tgt (fun _ _ _ z => nomatch z) (fun _ _ z => nomatch z)) rfl (sub_asg hh.2)
      · cases h
    · cases h
  · cases h
theorem Sok.tr (S : Sok X T I Γ xm sc) {pn : List (Addr × Obj)} {xe : Value → Shared → Prop} (hp : PassesOwn (model X.prog X.w) X.A X.env xe) : Sok (X.tr pn xe) T I Γ xm sc where
  c := { hT := S.c.hT, hN := S.c.hN, nd := S.c.nd, hsc := S.c.hsc, un := S.c.un, calm := S.c.calm, fns := S.c.fns, kp := S.c.kp, cal := fun j φ h => ⟨fun l => ⟨((S.c.cal j φ h).1 l).ex, ((S.c.cal j φ h).1 l).kp⟩, fun l => ⟨((S.c.cal j φ h).2 l).ex⟩⟩, free := S.c.free, glb := S.c.glb, fn := S.c.fn }
  po := hp
  stk := S.stk
  frm := S.frm
  kind := S.kind
  exc := fun j x h => let E := S.exc j x h; ⟨E.q, E.mg, E.kp, E.sb, E.ty⟩
  xm := S.xm
mutual
theorem trS_ok : ∀ (n : Nat) {X : Cx} (S : Sok X T I Γ xm sc) {H0 : Hp} {W : WD} (tk : Takes X (liftW T H0 W)) (st : Stmt) (r : Sr), trS n I sc st = some r → PS X st (liftS T H0 (dS Γ xm r W))
  | 0, _, _, _, _, _, _, _, h => by unfold trS at h; cases h
  | n + 1, X, S, H0, W, tk, st, r, h => by
    have C := S.c
    have ih := fun e ir h => (trE_ok n C tk e ir h).1
    cases st with
    | Pass p => unfold trS at h; cases h; exact ds_pas
    | Break p => unfold trS at h; cases h; exact ds_brk
    | Continue p => unfold trS at h; cases h; exact ds_cnt
    | Return e p =>
      unfold trS at h
      split at h
      · cases h; exact ds_retN
      · rename_i e
        cases q : trE n I sc e with
        | none => rw [q] at h; cases h
        | some a => rw [q] at h; cases h; exact ds_ret (ih _ _ q)
    | Expr e p =>
      unfold trS at h
      split at h
      · rename_i hc
        cases q : trE n I sc e with
        | none => rw [q] at h; cases h
        | some a => rw [q] at h; cases h; exact ds_drp (ih _ _ q) (swaps_ok hc)
      · cases h
    | If c a b p =>
      unfold trS at h
      split at h
      · rename_i c' a' b' q1 q2 q3
        cases h
        exact ds_ite (trE_ok n C tk _ _ q1).2 (trSs_ok n S tk _ _ q2) (trSs_ok n S tk _ _ q3)
      · cases h
    | While c a b p =>
      unfold trS at h
      split at h
      · rename_i c' a' q1 q2
        cases h
        exact ds_whl S.po (trE_ok n C tk _ _ q1).2 (trSs_ok n S tk _ _ q2)
      · cases h
    | For tg it a b p =>
      unfold trS at h
      split at h
      · rename_i t i a' q1 q2 q3
        cases h
        obtain ⟨g1, g2⟩ := trI_ok (tg := tg) C ih q2
        exact ds_for S.po C.calm g1 (trTg_ok C 8 q1) (trSs_ok n S tk _ _ q3) g2
      · cases h
    | Assign ts e p =>
      unfold trS at h
      split at h
      · exact trAs_ok S tk h
      · cases h
    | AugAssign t op e p =>
      unfold trS at h
      split at h
      · split at h
        · rename_i hk
          split at h
          · rename_i i a q1 q2
            cases h
            exact ds_aug C.nd (by rw [C.hN]; exact ixOf_ok q1) (by rw [C.hsc]; exact hk) (ih _ _ q2) (by rw [C.hsc]; exact hk.elim .inr fun z => .inl (C.fn rfl _ z))
          · cases h
        · cases h
      · cases h
    | Raise e c p =>
      unfold trS at h
      split at h
      · unfold trRs at h
        split at h
        · split at h
          · rename_i x p1 m k p2 p3 hg
            obtain ⟨gl, hdb⟩ := glob_ok C hg
            cases q : ixOf x I.exs with
            | none => rw [q] at h; cases h
            | some j => rw [q] at h; cases h; exact ds_rse C.calm tk (S.exc j x (ixOf_ok q)) gl hdb
          · cases h
        · cases h
      · cases h
    | Try b hs o f p =>
      unfold trS at h
      split at h
      · split at h
        · rename_i x p1 b0 su p2 hg
          obtain ⟨gl, hdb⟩ := glob_ok C hg
          split at h
          · rename_i b' j h' q1 q2 q3
            cases h
            exact ds_try1 (tb := fun W => dSs Γ xm b' W) (wh := dSs Γ xm h' W0) C.hT S.stk S.frm ⟨gl, hdb, .inl (S.exc j x (ixOf_ok q2)).mg⟩ tk (fun i k e => S.xm i j k e)
              (fun H0 W pn xe tk' hp => trSs_ok n (S.tr hp) tk' _ _ q1) (fun H0 a oe cls d pn hz hf => trH_ok (X := X.suite a ((a, oe) :: pn)) ⟨C.hT, C.hN, C.nd, C.hsc⟩ q3)
          · cases h
        · cases h
      · cases h
    | _ => unfold trS at h; cases h
theorem trSs_ok : ∀ (n : Nat) {X : Cx} (S : Sok X T I Γ xm sc) {H0 : Hp} {W : WD} (tk : Takes X (liftW T H0 W)) (l : List Stmt) (r : Srs), trSs n I sc l = some r → PSs X l (liftS T H0 (dSs Γ xm r W))
  | 0, _, _, _, _, _, _, _, h => by unfold trSs at h; cases h
  | n + 1, _, _, _, _, _, [], _, h => by unfold trSs at h; cases h; exact dss_nil
  | n + 1, X, S, H0, W, tk, s :: l, _, h => by
    unfold trSs at h
    split at h
    · rename_i a b q1 q2
      cases h
      exact dss_cons (w := dS Γ xm a W) (r := dSs Γ xm b W) (trS_ok n S tk _ _ q1) (trSs_ok n S tk _ _ q2)
    · cases h
end
end
end DL
end
section
set_option maxHeartbeats 1000000
namespace DL
open PySem PySem.Spec PyProof.Rows L2
/-! ### defs -/
def startD (n : Nat) (ds : List D) : Ev := ds.map some ++ List.replicate (n - ds.length) none
theorem start_ok {T : Tx} {H : Hp} {N : List Str} {vs : List V} {ds : List D} (r : DenL T H vs ds) : EnvOk T H (L2.start N vs) (startD N.length ds) := by
  unfold L2.start startD
  refine ⟨by simp [r.length], fun i d e => ?_⟩
  by_cases hi : i < ds.length
  · rw [List.getElem?_append_left (by simpa using hi), List.getElem?_map] at e
    cases q : ds[i]? with
    | none => rw [q] at e; cases e
    | some x =>
      rw [q] at e
      cases e
      obtain ⟨v, e1, h⟩ := r.get q
      exact ⟨v, by rw [List.getElem?_append_left (by simpa [r.length] using hi), List.getElem?_map, e1] <;> rfl, h⟩
  · rw [List.getElem?_append_right (by simpa using Nat.le_of_not_lt hi), List.getElem?_replicate] at e
    split at e <;> cases e
structure PI where
  fns : List (Str × Nat)
  free : List Str
  glb : List (Str × D)
  exs : List Str
def PI.if_ (p : PI) (N : List Str) (mls : List (Nat × Nat)) : If := { N := N, fns := p.fns, free := p.free, glb := p.glb, exs := p.exs, mls := mls }
structure ExcK (K : PySem.W.Frag) (mg : Str → Option Value) (C : Addr) (x : Str) : Prop where
  q : PySem.W.excIn K C He.veBase "ValueError.__new__" = true
  mg : mg x = some (.ref C)
  kp : PySem.W.keepIn K (.ref C) = true
  sb : PySem.W.subIn K (.ref C) (.type "BaseException") = some true
  ty : PySem.W.typeIn K (.ref C) = some (.type "type")
/-- the text's facts -/
structure Pok (mg : Str → Option Value) (T : Tx) (p : PI) (xm : Nat → Nat → Option Bool) : Prop where
  fns : ∀ j x n, p.fns[j]? = some (x, n) → n ≠ 98 → T.isN j = false ∧ mg x = some (.ref (T.fA j))
  kp : ∀ j x n, p.fns[j]? = some (x, n) → n ≠ 98 → PySem.W.keepIn T.K (.ref (T.fA j)) = true
  free : ∀ x, x ∈ p.free → mg x = none
  glb : ∀ x d, (x, d) ∈ p.glb → ∃ u v, mg x = some u ∧ RelV v u ∧ ∀ H, Den T H v d
  exc : ∀ j x, p.exs[j]? = some x → ExcK T.K mg (T.xA j) x
  xm : ∀ i j k, xm i j = some k → PySem.W.exmOne T.K (.ref (T.xA i)) (.ref (T.xA j)) = some k
/-- the def at f keeps the contract φ, at a level up to k -/
def CalK (P : Program) (w : World) (mg : Str → Option Value) (base : Heap) (T : Tx) (k : Nat) (f : Addr) (φ : DSp) : Prop :=
  ∃ (fd : FuncData) (ps : List Str) (us : List Value) (dvs : List V) (dd : List D) (φ0 : DSp), FnOk P w T.K mg base (L2.CX P w) k f fd ps (liftSp T ps.length φ0) ∧ Binds T.K fd ps us ∧ Vals dvs us ∧
    (∀ H, DenL T H dvs dd) ∧ (∀ l M Q E, φ l M Q E → l.length + dvs.length = ps.length) ∧ (∀ l M Q E, φ l M Q E → φ0 (l ++ dd) M Q E) ∧ PySem.W.keepIn T.K (.ref f) = true
theorem CalK.mono {P : Program} {w : World} {mg : Str → Option Value} {base : Heap} {T : Tx} {j k : Nat} {f : Addr} {φ : DSp} (h : CalK P w mg base T j f φ) (le : j ≤ k) : CalK P w mg base T k f φ := by
  obtain ⟨fd, ps, us, dvs, dd, φ0, F, r⟩ := h
  exact ⟨fd, ps, us, dvs, dd, φ0, F.mono le, r⟩
/-- a closure's kind -/
def CloK (P : Program) (w : World) (mg : Str → Option Value) (base : Heap) (T : Tx) (k j : Nat) (φ : DSp) : Prop :=
  ∃ (n : Nat) (ψ : List D → (D → Prop) → Prop), NokD P w T.K mg base T k j n ψ ∧ ∀ l M Q E, φ l M Q E → l.length = n + (T.nfr j).length ∧ noClos l = true ∧ ψ l fun d => Q d M
theorem CloK.mono {P : Program} {w : World} {mg : Str → Option Value} {base : Heap} {T : Tx} {i k j : Nat} {φ : DSp} (h : CloK P w mg base T i j φ) (le : i ≤ k) : CloK P w mg base T k j φ := by
  obtain ⟨n, ψ, F, r⟩ := h
  exact ⟨n, ψ, ⟨fun A outer s H us vs ws ds q f c cl Q hr => F.run A outer s H us vs ws ds q f c cl Q (hr.mono le)⟩, r⟩
/-- the contract of the number j is kept -/
def AnyK (P : Program) (w : World) (mg : Str → Option Value) (base : Heap) (T : Tx) (k j : Nat) (φ : DSp) : Prop := (T.isN j = false → CalK P w mg base T k (T.fA j) φ) ∧ (T.isN j = true → CloK P w mg base T k j φ)
/-- what is wanted behind a def's body: anything may be forgotten -/
def endW (E : XD) : WD := fun j fs _ M' => ∃ M'', M''.le M' ∧ E j fs M''
def endS (Q : QD) : En := { nx := fun _ M' => ∃ M'', M''.le M' ∧ Q .non M'', rt := fun d M' => ∃ M'', M''.le M' ∧ Q d M'' }
/-- a def keeps what its translation shows -/
theorem fn_D {P : Program} {w : World} {mg : Str → Option Value} {base : Heap} {T : Tx} {p : PI} {xm : Nat → Nat → Option Bool} {Γ : List DSp} {k n : Nat} {x q : Str} {params : Arguments} {body : List Stmt} {scope : Scope} {dvs : List V} {kws : List (Str × V)} {f : Addr} {fd : FuncData} {N ps : List Str} {mls : List (Nat × Nat)} {ir : Srs} {φ : DSp}
    (F : FunD T.K x q params body scope dvs kws f fd) (S : FnScope N ps scope) (Pk : Pok mg T p xm) (G : ∀ j φ, Γ[j]? = some φ → AnyK P w mg base T k j φ) (tr : trSs n (p.if_ N mls) scope body = some ir)
    (h : ∀ ds M Q E, φ ds M Q E → ds.length = ps.length → dSs Γ xm ir (endW E) (endS Q) (startD N.length ds) M) : FnOk P w T.K mg base (L2.CX P w) (k + 1) f fd ps (liftSp T ps.length φ) := by
  refine F.ok S (fun vs H Q E ⟨ds, M, QQ, EE, hl, _⟩ => hl) fun cdv A outer s H vs Q E hr hsp => ?_
  obtain ⟨ds, M, QQ, EE, hl, hd, hm, hφ, kq, ke⟩ := hsp
  have SK : Sok (cxOf (L2.CX P w) P w T.K mg base N q scope f cdv A outer s H E) T (p.if_ N mls) Γ xm scope := {
    c := { hT := rfl, hN := rfl, nd := S.nd, hsc := rfl, un := Nat.lt_of_le_of_lt (show _ ≤ (A.deeper (envOfC q scope s.heap.objs.size f cdv)).units + 16 * k + 200 from by show (A.deeper (envOfC q scope s.heap.objs.size f cdv)).units + 65 ≤ _; omega) hr.un, calm := rfl, fns := Pk.fns, kp := Pk.kp, cal := fun j φ e => ⟨fun hj => (by
             obtain ⟨fd, ps, us, dvs, dd, φ0, F, h1, h2, h3, h4, h5, h6⟩ := (G j φ e).1 hj
             exact ⟨⟨k, fd, ps, us, dvs, dd, φ0, F, hr, h1, h2, h3, h4, h5⟩, h6⟩), fun hj => (by
             obtain ⟨n, ψ, F, r⟩ := (G j φ e).2 hj
             exact ⟨⟨k, n, ψ, F, hr, r⟩⟩)⟩, free := Pk.free, glb := Pk.glb, fn := fun _ _ _ => rfl }
    po := passes_of rfl
    stk := rfl
    frm := rfl
    kind := S.kind
    exc := fun j x e => let E := Pk.exc j x e; ⟨E.q, E.mg, E.kp, E.sb, E.ty⟩
    xm := Pk.xm }
  have tk : Takes (cxOf (L2.CX P w) P w T.K mg base N q scope f cdv A outer s H E) (liftW T H (endW EE)) :=
    (takes_of (X := cxOf (L2.CX P w) P w T.K mg base N q scope f cdv A outer s H E) (E := E) rfl rfl rfl rfl).imp fun cls d σ H' ⟨j, fs, δ, M', e, ex, rl, M'', le, z⟩ => by
      subst e
      exact ke j d fs H' M'' rl.base (rl.mem.le le) ex z
  refine ⟨_, trSs_ok n SK tk _ _ tr, startD N.length ds, M, endS QQ, ⟨Stb.refl _, start_ok hd, hm⟩, h ds M QQ EE hφ (by rw [← hd.length]; exact hl), ?_, ?_, fun _ _ _ _ _ _ z => z, fun _ _ _ _ _ _ z => z⟩
  · rintro σ' H' δ' M' rl s ⟨M'', le, z⟩
    exact kq _ _ _ _ s (rl.mem.le le) .non z
  · rintro v H' d M' b s m dd ⟨M'', le, z⟩
    exact kq _ _ _ _ s (m.le le) dd z
/-- how it may be called: every parameter written -/
theorem CalK.all {P : Program} {w : World} {mg : Str → Option Value} {base : Heap} {T : Tx} {k : Nat} {f : Addr} {fd : FuncData} {ps : List Str} {φ : DSp} (F : FnOk P w T.K mg base (L2.CX P w) k f fd ps (liftSp T ps.length φ)) (b : Binds T.K fd ps []) (kp : PySem.W.keepIn T.K (.ref f) = true) (hl : ∀ l M Q E, φ l M Q E → l.length = ps.length) :
    CalK P w mg base T k f φ := ⟨fd, ps, [], [], [], φ, F, b, .nil, fun _ => .nil, fun l M Q E h => by simpa using hl l M Q E h, fun l M Q E h => by rw [List.append_nil]; exact h, kp⟩
end DL
end
namespace DL
open PySem PySem.Spec PyProof.Rows L2
/-! ### one step each, for simp -/
section
variable {Γ : List DSp} {xm : Nat → Nat → Option Bool} {W : WD} {δ : Ev} {M : Mem} {Q : QD} {QT : Bool → Mem → Prop} {QA : List D → Mem → Prop} {QO : Option Int → Mem → Prop} {QI : List D → (Mem → Prop) → Mem → Prop} {E : En} {a b c e o i : Ir} {as : Irs} {n j l : Nat} {s : Sr} {r p q : Srs} {d x y z : D} {u v t : Int} {kb kc : Bool} {xs ys : List D} {k : Bool → Prop} {sa sb : Str}
@[simp] theorem e_var : dE Γ (.var n) W δ M Q = opt δ[n]? fun o => opt o fun d => Q d M := rfl
@[simp] theorem e_cst : dE Γ (.cst d) W δ M Q = Q d M := rfl
@[simp] theorem e_bin {op : Operator} : dE Γ (.bin op a b) W δ M Q = dE Γ a W δ M fun x M1 => dE Γ b W δ M1 fun y M2 => wBin op x y M2 Q := rfl
@[simp] theorem e_neg : dE Γ (.neg a) W δ M Q = dE Γ a W δ M fun x M1 => wNeg x M1 Q := rfl
@[simp] theorem e_not : dE Γ (.not a) W δ M Q = dE Γ a W δ M fun x M1 => dTru x M1 fun k => Q (.bl (!k)) M1 := rfl
@[simp] theorem e_and : dE Γ (.and a b) W δ M Q = dE Γ a W δ M fun x M1 => dTru x M1 fun k => if k = true then dE Γ b W δ M1 Q else Q x M1 := rfl
@[simp] theorem e_or : dE Γ (.or a b) W δ M Q = dE Γ a W δ M fun x M1 => dTru x M1 fun k => if k = true then Q x M1 else dE Γ b W δ M1 Q := rfl
@[simp] theorem e_cmp {op : CmpOp} : dE Γ (.cmp op a b) W δ M Q = dE Γ a W δ M fun x M1 => dE Γ b W δ M1 fun y M2 => wCmp op x y M2 Q := rfl
@[simp] theorem e_chn {op op' : CmpOp} : dE Γ (.chn op op' a b c) W δ M Q = dE Γ a W δ M fun x M1 => dE Γ b W δ M1 fun y M2 => wCmp op x y M2 fun z M3 => wChn z fun k => if k = true then dE Γ c W δ M3 fun u M4 => wCmp op' y u M4 Q else Q (.bl false) M3 := rfl
@[simp] theorem e_chn3 {o1 o2 o3 : CmpOp} {d' : Ir} : dE Γ (.chn3 o1 o2 o3 a b c d') W δ M Q = dE Γ a W δ M fun x M1 => dE Γ b W δ M1 fun y M2 => wCmp o1 x y M2 fun z M3 => wChn z fun k => if k = true then dE Γ c W δ M3 fun u M4 => wCmp o2 y u M4 fun z' M5 => wChn z' fun k' => if k' = true then dE Γ d' W δ M5 fun v M6 => wCmp o3 u v M6 Q else Q (.bl false) M5 else Q (.bl false) M3 := rfl
@[simp] theorem e_dgv {kvs : List (Int × Int)} : dE Γ (.dgv kvs n) W δ M Q = opt δ[n]? fun o => opt o fun d => dgV kvs d M Q := rfl
@[simp] theorem e_ite : dE Γ (.ite c a b) W δ M Q = dT Γ c W δ M fun k M1 => if k = true then dE Γ a W δ M1 Q else dE Γ b W δ M1 Q := rfl
@[simp] theorem e_tup : dE Γ (.tup as) W δ M Q = dA Γ as W δ M fun ds M1 => ds.length ≤ 4096 ∧ Q (.tup ds) M1 := rfl
@[simp] theorem e_lst : dE Γ (.lst as) W δ M Q = dA Γ as W δ M fun ds M1 => ds.length ≤ 4096 ∧ Q (.lst ds) M1 := rfl
@[simp] theorem e_mls : dE Γ (.mls as) W δ M Q = dA Γ as W δ M fun ds M1 => ds.length ≤ 4096 ∧ ∀ p, M1 p = none → Q (.ref p) (M1.put p (.lst ds)) := rfl
@[simp] theorem e_idx : dE Γ (.idx a b) W δ M Q = dE Γ a W δ M fun x M1 => dE Γ b W δ M1 fun y M2 => wIdx x y M2 Q := rfl
@[simp] theorem e_slc {lo hi : Io} : dE Γ (.slc a lo hi) W δ M Q = dE Γ a W δ M fun x M1 => dO Γ lo W δ M1 fun l M2 => dO Γ hi W δ M2 fun u M3 => wSlc x l u M3 Q := rfl
@[simp] theorem e_call : dE Γ (.call j as) W δ M Q = dA Γ as W δ M fun ds M1 => opt Γ[j]? fun φ => φ ds M1 Q fun x fs M' => W x fs δ M' := rfl
@[simp] theorem e_calv : dE Γ (.calv n as) W δ M Q = opt δ[n]? fun o => opt o fun f => opt (fnOf f) fun j => opt Γ[j.1]? fun φ => dA Γ as W δ M fun ds M1 => φ (ds ++ j.2) M1 Q fun x fs M' => W x fs δ M' := rfl
@[simp] theorem e_blt {bi : Bi} : dE Γ (.blt bi as) W δ M Q = dA Γ as W δ M fun ds M1 => wBlt bi ds M1 Q := rfl
@[simp] theorem e_app : dE Γ (.app a b) W δ M Q = dE Γ a W δ M fun x M1 => opt (lsM M1 x) fun _ => dE Γ b W δ M1 fun y M2 => wApp x y M2 Q := rfl
@[simp] theorem e_bits : dE Γ (.bits a) W δ M Q = dE Γ a W δ M fun x M1 => wBits x M1 Q := rfl
@[simp] theorem e_lc {it : It} {tg : Tg} {ws : List Nat} : dE Γ (.lc it tg c e ws) W δ M Q = dI Γ it W δ M fun ds ch M1 => ∀ p, M1 p = none → lcGo (fun d M k => wTg tg d M (wipeD δ ws) fun δ1 => dT Γ c W0 δ1 M fun b M2 => if b = true then dE Γ e W0 δ1 M2 fun y M3 => k (some y) M3 else k none M2) ch p (fun es M3 => Q (.lst es) M3) ds [] (M1.put p (.lst [])) := rfl
@[simp] theorem e_lc2 {it it1 : It} {tg tg1 : Tg} {ws ws1 : List Nat} : dE Γ (.lc2 it tg it1 tg1 e ws ws1) W δ M Q = dI Γ it W δ M fun ds ch M1 => ∀ p, M1 p = none → lcOut (fun d acc M K => wTg tg d M (wipeD δ ws) fun δ1 => dI Γ it1 W0 δ1 M fun ds1 ch1 M2 => lcIn (fun d1 M k => wTg tg1 d1 M (wipeD δ1 ws1) fun δ2 => dE Γ e W0 δ2 M k) ch1 p K ds1 acc M2) ch p (fun es M3 => Q (.lst es) M3) ds [] (M1.put p (.lst [])) := rfl
@[simp] theorem t_not : dT Γ (.not a) W δ M QT = dT Γ a W δ M fun k M1 => QT (!k) M1 := rfl
@[simp] theorem t_and : dT Γ (.and a b) W δ M QT = dT Γ a W δ M fun k M1 => if k = true then dT Γ b W δ M1 QT else QT false M1 := rfl
@[simp] theorem t_or : dT Γ (.or a b) W δ M QT = dT Γ a W δ M fun k M1 => if k = true then QT true M1 else dT Γ b W δ M1 QT := rfl
@[simp] theorem t_cmp {op : CmpOp} : dT Γ (.cmp op a b) W δ M QT = dE Γ a W δ M fun x M1 => dE Γ b W δ M1 fun y M2 => wCmp op x y M2 fun z M3 => wChn z fun k => QT k M3 := rfl
@[simp] theorem t_chn {op op' : CmpOp} : dT Γ (.chn op op' a b c) W δ M QT = dE Γ a W δ M fun x M1 => dE Γ b W δ M1 fun y M2 => wCmp op x y M2 fun z M3 => wChn z fun k => if k = true then dE Γ c W δ M3 fun u M4 => wCmp op' y u M4 fun z' M5 => wChn z' fun k' => QT k' M5 else QT false M3 := rfl
@[simp] theorem t_var : dT Γ (.var n) W δ M QT = opt δ[n]? fun o => opt o fun d => dTru d M fun k => QT k M := rfl
@[simp] theorem t_cst : dT Γ (.cst d) W δ M QT = dTru d M fun k => QT k M := rfl
@[simp] theorem t_bin {op : Operator} : dT Γ (.bin op a b) W δ M QT = dE Γ a W δ M fun x M1 => dE Γ b W δ M1 fun y M2 => wBin op x y M2 fun z M3 => dTru z M3 fun k => QT k M3 := rfl
@[simp] theorem t_idx : dT Γ (.idx a b) W δ M QT = dE Γ a W δ M fun x M1 => dE Γ b W δ M1 fun y M2 => wIdx x y M2 fun z M3 => dTru z M3 fun k => QT k M3 := rfl
@[simp] theorem t_call : dT Γ (.call j as) W δ M QT = dA Γ as W δ M fun ds M1 => opt Γ[j]? fun φ => φ ds M1 (fun z M3 => dTru z M3 fun k => QT k M3) fun x fs M' => W x fs δ M' := rfl
@[simp] theorem t_calv : dT Γ (.calv n as) W δ M QT = opt δ[n]? fun o => opt o fun f => opt (fnOf f) fun j => opt Γ[j.1]? fun φ => dA Γ as W δ M fun ds M1 => φ (ds ++ j.2) M1 (fun z M3 => dTru z M3 fun k => QT k M3) fun x fs M' => W x fs δ M' := rfl
@[simp] theorem t_blt {bi : Bi} : dT Γ (.blt bi as) W δ M QT = dA Γ as W δ M fun ds M1 => wBlt bi ds M1 fun z M3 => dTru z M3 fun k => QT k M3 := rfl
@[simp] theorem a_nil : dA Γ .nil W δ M QA = QA [] M := rfl
@[simp] theorem a_cons : dA Γ (.cons a as) W δ M QA = dE Γ a W δ M fun d M1 => dA Γ as W δ M1 fun ds M2 => QA (d :: ds) M2 := rfl
@[simp] theorem o_none : dO Γ .none W δ M QO = QO none M := rfl
def intQ (d : D) (k : Int → Prop) : Prop := match d with
  | .int i => k i
  | _ => False
@[simp] theorem intQ_int {k : Int → Prop} : intQ (.int u) k = k u := rfl
@[simp] theorem o_some : dO Γ (.some a) W δ M QO = dE Γ a W δ M fun d M1 => intQ d fun i => QO (some i) M1 := rfl
@[simp] theorem i_rng1 : dI Γ (.rng1 a) W δ M QI = dE Γ a W δ M fun x M1 => rg1 x fun ds => QI ds (fun _ => True) M1 := rfl
@[simp] theorem i_rng2 : dI Γ (.rng2 a b) W δ M QI = dE Γ a W δ M fun x M1 => dE Γ b W δ M1 fun y M2 => rg2 x y fun ds => QI ds (fun _ => True) M2 := rfl
@[simp] theorem i_rng3 : dI Γ (.rng3 a b c) W δ M QI = dE Γ a W δ M fun x M1 => dE Γ b W δ M1 fun y M2 => dE Γ c W δ M2 fun z M3 => rg3 x y z fun ds => QI ds (fun _ => True) M3 := rfl
@[simp] theorem i_val : dI Γ (.val a) W δ M QI = dE Γ a W δ M fun x M1 => opt (itM M1 x) fun ds => ds.length ≤ sizeLine → QI ds (chk x ds) M1 := rfl
@[simp] theorem s_pas : dS Γ xm .pas W E δ M = E.nx δ M := rfl
@[simp] theorem s_brk : dS Γ xm .brk W E δ M = E.bk δ M := rfl
@[simp] theorem s_cnt : dS Γ xm .cnt W E δ M = E.ct δ M := rfl
@[simp] theorem s_set : dS Γ xm (.set n e) W E δ M = dE Γ e W δ M fun d M1 => E.nx (δ.set n (some d)) M1 := rfl
@[simp] theorem s_asg {tg : Tg} : dS Γ xm (.asg tg e) W E δ M = dE Γ e W δ M fun d M1 => wTg tg d M1 δ fun δ1 => E.nx δ1 M1 := rfl
@[simp] theorem s_par : dS Γ xm (.par n j a b) W E δ M = dE Γ a W δ M fun x M1 => dE Γ b W δ M1 fun y M2 => E.nx ((δ.set n (some x)).set j (some y)) M2 := rfl
@[simp] theorem s_par3 : dS Γ xm (.par3 n j l a b c) W E δ M = dE Γ a W δ M fun x M1 => dE Γ b W δ M1 fun y M2 => dE Γ c W δ M2 fun z M3 => E.nx (((δ.set n (some x)).set j (some y)).set l (some z)) M3 := rfl
@[simp] theorem s_sub : dS Γ xm (.sub o i e) W E δ M = dE Γ e W δ M fun d M1 => dE Γ o W δ M1 fun x M2 => dE Γ i W δ M2 fun y M3 => wSub x y d M3 fun M4 => E.nx δ M4 := rfl
@[simp] theorem s_aug {op : Operator} : dS Γ xm (.aug n op e) W E δ M = opt δ[n]? fun o => opt o fun x => dE Γ e W δ M fun y M1 => wAug op x y M1 fun z M2 => E.nx (δ.set n (some z)) M2 := rfl
@[simp] theorem s_drp : dS Γ xm (.drp e) W E δ M = dE Γ e W δ M fun _ M1 => E.nx δ M1 := rfl
@[simp] theorem s_ret : dS Γ xm (.ret e) W E δ M = dE Γ e W δ M fun d M1 => E.rt d M1 := rfl
@[simp] theorem s_retN : dS Γ xm .retN W E δ M = E.rt .non M := rfl
@[simp] theorem s_ite : dS Γ xm (.ite c p q) W E δ M = dT Γ c W δ M fun k M1 => if k = true then dSs Γ xm p W E δ M1 else dSs Γ xm q W E δ M1 := rfl
@[simp] theorem s_for {tg : Tg} {it : It} : dS Γ xm (.for_ tg it p) W E δ M = dI Γ it W δ M fun ds ch M1 => forGo (fun d E δ M => wTg tg d M δ fun δ1 => dSs Γ xm p W E δ1 M) ch E ds δ M1 := rfl
theorem s_whl : dS Γ xm (.whl c p) W E δ M = whlGo (fun δ M Q => dT Γ c W δ M Q) (fun E δ M => dSs Γ xm p W E δ M) E δ M := rfl
@[simp] theorem s_rse : dS Γ xm (.rse n) W E δ M = W n [] δ M := rfl
@[simp] theorem s_try1 : dS Γ xm (.try1 p n q) W E δ M = dSs Γ xm p (fun j fs δ' M' => opt (xm j n) fun k => if k = true then dSs Γ xm q W0 E δ' M' else W j fs δ' M') E δ M := rfl
@[simp] theorem ss_nil : dSs Γ xm .nil W E δ M = E.nx δ M := rfl
@[simp] theorem ss_cons : dSs Γ xm (.cons s r) W E δ M = dS Γ xm s W { nx := fun δ' M' => dSs Γ xm r W E δ' M', rt := E.rt, bk := E.bk, ct := E.ct } δ M := rfl
@[simp] theorem opt_s {α : Type} {a : α} {f : α → Prop} : opt (some a) f = f a := rfl
@[simp] theorem opt_n {α : Type} {f : α → Prop} : opt none f = False := rfl
-- operators
@[simp] theorem bin_add : wBin .Add (.int u) (.int v) M Q = Q (.int (u + v)) M := rfl
@[simp] theorem bin_adds : wBin .Add (.str sa) (.str sb) M Q = (sa.length + sb.length ≤ sizeLine ∧ Q (.str (sa ++ sb)) M) := rfl
@[simp] theorem bin_addt : wBin .Add (.tup xs) (.tup ys) M Q = (xs.length + ys.length ≤ sizeLine ∧ Q (.tup (xs ++ ys)) M) := rfl
@[simp] theorem bin_sub : wBin .Sub (.int u) (.int v) M Q = Q (.int (u - v)) M := rfl
@[simp] theorem bin_mul : wBin .Mult (.int u) (.int v) M Q = (IntMulOk u v ∧ Q (.int (u * v)) M) := rfl
@[simp] theorem bin_rep {l : Addr} : wBin .Mult (.ref l) (.int v) M Q = opt (lsM M (.ref l)) fun xs => (-(2 ^ 63) ≤ v ∧ v < 2 ^ 63) ∧ xs.length * v.toNat ≤ sizeLine ∧ ∀ p, M p = none → Q (.ref p) (M.put p (.lst (List.replicate v.toNat xs).flatten)) := rfl
@[simp] theorem bin_cat {l r : Addr} : wBin .Add (.ref l) (.ref r) M Q = opt (lsM M (.ref l)) fun xs => opt (lsM M (.ref r)) fun ys => xs.length + ys.length ≤ sizeLine ∧ ∀ p, M p = none → Q (.ref p) (M.put p (.lst (xs ++ ys))) := rfl
@[simp] theorem bin_div : wBin .FloorDiv (.int u) (.int v) M Q = (CDv u v ∧ Q (.int (u.fdiv v)) M) := rfl
@[simp] theorem bin_mod : wBin .Mod (.int u) (.int v) M Q = (v ≠ 0 ∧ Q (.int (u.fmod v)) M) := rfl
@[simp] theorem bin_shl : wBin .LShift (.int u) (.int v) M Q = (CShl u v ∧ Q (.int (u * 2 ^ v.toNat)) M) := rfl
@[simp] theorem bin_pow : wBin .Pow (.int u) (.int v) M Q = (CPow u v ∧ Q (.int (u ^ v.toNat)) M) := rfl
@[simp] theorem aug_add : wAug .Add (.int u) (.int v) M Q = Q (.int (u + v)) M := rfl
@[simp] theorem aug_adds : wAug .Add (.str sa) (.str sb) M Q = (sa.length + sb.length ≤ sizeLine ∧ Q (.str (sa ++ sb)) M) := rfl
@[simp] theorem aug_sub : wAug .Sub (.int u) (.int v) M Q = Q (.int (u - v)) M := rfl
@[simp] theorem aug_mul : wAug .Mult (.int u) (.int v) M Q = (IntMulOk u v ∧ Q (.int (u * v)) M) := rfl
@[simp] theorem aug_div : wAug .FloorDiv (.int u) (.int v) M Q = (CDv u v ∧ Q (.int (u.fdiv v)) M) := rfl
@[simp] theorem aug_mod : wAug .Mod (.int u) (.int v) M Q = (v ≠ 0 ∧ Q (.int (u.fmod v)) M) := rfl
@[simp] theorem aug_shl : wAug .LShift (.int u) (.int v) M Q = (CShl u v ∧ Q (.int (u * 2 ^ v.toNat)) M) := rfl
@[simp] theorem neg_int : wNeg (.int u) M Q = Q (.int (-u)) M := rfl
@[simp] theorem bits_int : wBits (.int u) M Q = Q (.int (Builtin.Int.intBits u : Nat)) M := rfl
@[simp] theorem chn_bl {f : Bool → Prop} : wChn (.bl kb) f = f kb := rfl
@[simp] theorem fnOf_fn : fnOf (.fn n) = some (n, []) := rfl
@[simp] theorem fnOf_clo : fnOf (.clo n xs) = some (n, xs) := rfl
-- comparisons
@[simp] theorem cmp_eq : wCmp .Eq x y M Q = wEq x y M fun b => Q (.bl b) M := rfl
@[simp] theorem cmp_ne : wCmp .NotEq x y M Q = wEq x y M fun b => Q (.bl (!b)) M := rfl
@[simp] theorem cmp_lt : wCmp .Lt (.int u) (.int v) M Q = Q (.bl (decide (u < v))) M := rfl
@[simp] theorem cmp_le : wCmp .LtE (.int u) (.int v) M Q = Q (.bl (decide (u ≤ v))) M := rfl
@[simp] theorem cmp_gt : wCmp .Gt (.int u) (.int v) M Q = Q (.bl (decide (v < u))) M := rfl
@[simp] theorem cmp_ge : wCmp .GtE (.int u) (.int v) M Q = Q (.bl (decide (v ≤ u))) M := rfl
@[simp] theorem cmp_is : wCmp .Is x y M Q = wIs x y fun b => Q (.bl b) M := rfl
@[simp] theorem cmp_isn : wCmp .IsNot x y M Q = wIs x y fun b => Q (.bl (!b)) M := rfl
@[simp] theorem cmp_in : wCmp .In x y M Q = wIn x y M fun b => Q (.bl b) M := rfl
@[simp] theorem cmp_nin : wCmp .NotIn x y M Q = wIn x y M fun b => Q (.bl (!b)) M := rfl
@[simp] theorem eq_ii : wEq (.int u) (.int v) M k = k (decide (u = v)) := rfl
@[simp] theorem eq_ss : wEq (.str sa) (.str sb) M k = k (decide (sa = sb)) := rfl
@[simp] theorem eq_bb : wEq (.bl kb) (.bl kc) M k = k (decide (kb = kc)) := rfl
@[simp] theorem eq_nn : wEq .non .non M k = k true := rfl
@[simp] theorem is_non : wIs x .non k = k (isNon x) := by cases x <;> rfl
@[simp] theorem is_bl : wIs (.bl kb) (.bl kc) k = k (decide (kb = kc)) := rfl
@[simp] theorem non_non : isNon .non = true := rfl
@[simp] theorem non_int : isNon (.int u) = false := rfl
@[simp] theorem non_bl : isNon (.bl kb) = false := rfl
@[simp] theorem non_str : isNon (.str sa) = false := rfl
@[simp] theorem non_tup : isNon (.tup xs) = false := rfl
@[simp] theorem non_lst : isNon (.lst xs) = false := rfl
@[simp] theorem in_str : wIn (.str sa) (.str sb) M k = k (!(Builtin.Str.occurrences sb sa 0 sb.length 1).isEmpty) := rfl
theorem in_tup (h1 : flatD x = true) (h2 : ys.all flatD = true) : wIn x (.tup ys) M k = k (ys.any fun d => eqF d x) := by
  show (∃ ds, some ys = some ds ∧ if (flatD x && ds.all flatD) = true then k (ds.any fun d => eqF d x) else _) = _
  exact propext ⟨fun ⟨_, e, h⟩ => by cases e; rw [h1, h2] at h; exact h, fun h => ⟨_, rfl, by rw [h1, h2]; exact h⟩⟩
theorem in_lst (h1 : flatD x = true) (h2 : ys.all flatD = true) : wIn x (.lst ys) M k = k (ys.any fun d => eqF d x) := by
  show (∃ ds, some ys = some ds ∧ if (flatD x && ds.all flatD) = true then k (ds.any fun d => eqF d x) else _) = _
  exact propext ⟨fun ⟨_, e, h⟩ => by cases e; rw [h1, h2] at h; exact h, fun h => ⟨_, rfl, by rw [h1, h2]; exact h⟩⟩
-- truth
@[simp] theorem tru_non : dTru .non M k = k false := rfl
@[simp] theorem tru_bl : dTru (.bl kb) M k = k kb := rfl
@[simp] theorem tru_int : dTru (.int u) M k = k (u != 0) := rfl
@[simp] theorem tru_str : dTru (.str sa) M k = k ((sa.length : Int) != 0) := rfl
@[simp] theorem tru_tup : dTru (.tup xs) M k = k (!xs.isEmpty) := rfl
@[simp] theorem tru_lst : dTru (.lst xs) M k = k (!xs.isEmpty) := rfl
-- items
@[simp] theorem sqM_tup : sqM M (.tup xs) = some xs := rfl
@[simp] theorem sqM_lst : sqM M (.lst xs) = some xs := rfl
@[simp] theorem lsM_lst : lsM M (.lst xs) = some xs := rfl
theorem lsM_ref {p : Addr} (h : M p = some (.lst xs)) : lsM M (.ref p) = some xs := by
  show (match M p with
    | some (.lst ds) => some ds
    | _ => none) = some xs
  rw [h]
theorem sqM_ref {p : Addr} (h : M p = some (.lst xs)) : sqM M (.ref p) = some xs := lsM_ref h
@[simp] theorem lsM_put {p : Addr} : lsM (M.put p (.lst xs)) (.ref p) = some xs := lsM_ref Mem.put_same
@[simp] theorem sqM_put {p : Addr} : sqM (M.put p (.lst xs)) (.ref p) = some xs := lsM_ref Mem.put_same
@[simp] theorem itM_tup : itM M (.tup xs) = some xs := rfl
@[simp] theorem itM_lst : itM M (.lst xs) = some xs := rfl
@[simp] theorem itM_ref {p : Addr} : itM M (.ref p) = lsM M (.ref p) := rfl
@[simp] theorem itM_str : itM M (.str sa) = some (sa.cps.toList.map fun c => .str ⟨#[c]⟩) := rfl
@[simp] theorem chk_tup : chk (.tup xs) ys M = True := rfl
@[simp] theorem chk_lst : chk (.lst xs) ys M = True := rfl
@[simp] theorem chk_str : chk (.str sa) ys M = True := rfl
@[simp] theorem idx_tup : wIdx (.tup xs) (.int u) M Q = opt (atI xs u) fun d => Q d M := rfl
@[simp] theorem idx_lst : wIdx (.lst xs) (.int u) M Q = opt (atI xs u) fun d => Q d M := rfl
@[simp] theorem idx_ref {p : Addr} : wIdx (.ref p) (.int u) M Q = opt (lsM M (.ref p)) fun ds => opt (atI ds u) fun d => Q d M := rfl
@[simp] theorem idx_str : wIdx (.str sa) (.int u) M Q = opt (atI sa.cps.toList u) fun c => Q (.str ⟨#[c]⟩) M := rfl
theorem at_nat {α : Type} {l : List α} {n : Nat} : atI l (n : Int) = l[n]? := by
  unfold atI ixN
  by_cases h : n < l.length
  · rw [if_pos (by omega), if_pos (by omega)]; rfl
  · rw [if_pos (by omega), if_neg (by omega), List.getElem?_eq_none (by omega)]; rfl
@[simp] theorem at_0 {α : Type} {a : α} {l : List α} : atI (a :: l) 0 = some a := (at_nat (n := 0)).trans rfl
@[simp] theorem at_1 {α : Type} {a : α} {l : List α} : atI (a :: l) 1 = l[0]? := (at_nat (n := 1)).trans rfl
@[simp] theorem at_2 {α : Type} {a b : α} {l : List α} : atI (a :: b :: l) 2 = l[0]? := (at_nat (n := 2)).trans rfl
@[simp] theorem at_3 {α : Type} {a b c : α} {l : List α} : atI (a :: b :: c :: l) 3 = l[0]? := (at_nat (n := 3)).trans rfl
@[simp] theorem at_4 {α : Type} {a b c d : α} {l : List α} : atI (a :: b :: c :: d :: l) 4 = l[0]? := (at_nat (n := 4)).trans rfl
@[simp] theorem ixN_0 {n : Nat} : ixN (n + 1) 0 = some 0 := by unfold ixN; rw [if_pos (by decide), if_pos (by omega)]; rfl
theorem ixN_nat {n j : Nat} (h : j < n) : ixN n (j : Int) = some j := by unfold ixN; rw [if_pos (by omega), if_pos (by omega)]; rfl
@[simp] theorem slc_str {lo hi : Option Int} : wSlc (.str sa) lo hi M Q = Q (.str (cutS sa lo hi)) M := rfl
@[simp] theorem slc_tup {lo hi : Option Int} : wSlc (.tup xs) lo hi M Q = Q (.tup (cutD xs lo hi)) M := rfl
@[simp] theorem slc_lst {lo hi : Option Int} : wSlc (.lst xs) lo hi M Q = Q (.lst (cutD xs lo hi)) M := rfl
@[simp] theorem slc_ref {p : Addr} {lo hi : Option Int} : wSlc (.ref p) lo hi M Q = opt (lsM M (.ref p)) fun ds => Q (.lst (cutD ds lo hi)) M := rfl
theorem cut_from (n : Nat) : cutD xs (some (n : Int)) none = xs.drop n := by
  unfold cutD
  rw [HT.sIx_nat, HT.sIx_none]
  by_cases h : n ≤ xs.length
  · rw [Nat.min_eq_left h, List.take_of_length_le (by simp)]
  · rw [Nat.min_eq_right (by omega), List.drop_length, List.drop_eq_nil_of_le (by omega)]; simp
@[simp] theorem cut_1 : cutD xs (some 1) none = xs.drop 1 := cut_from 1
@[simp] theorem cut_2 : cutD xs (some 2) none = xs.drop 2 := cut_from 2
theorem cut_to (n : Nat) : cutD xs none (some (n : Int)) = xs.take n := by
  unfold cutD
  rw [HT.sIx_nat, HT.sIx_none]
  by_cases h : n ≤ xs.length
  · rw [Nat.min_eq_left h]; simp
  · rw [Nat.min_eq_right (by omega)]; simp; rw [List.take_of_length_le (by omega)]
@[simp] theorem cut_t1 : cutD xs none (some 1) = xs.take 1 := cut_to 1
@[simp] theorem cut_t2 : cutD xs none (some 2) = xs.take 2 := cut_to 2
@[simp] theorem app_put {p : Addr} : wApp (.ref p) y (M.put p (.lst xs)) Q = (xs.length < sizeLine ∧ Q .non (M.put p (.lst (xs ++ [y])))) := by
  show (opt ((M.put p (.lst xs)) p) fun o => _) = _
  rw [Mem.put_same, opt_s]
  show (xs.length < sizeLine ∧ Q .non ((M.put p (.lst xs)).put p (.lst (xs ++ [y])))) = _
  rw [Mem.put_put]
theorem app_ref {p : Addr} (h : M p = some (.lst xs)) : wApp (.ref p) y M Q = (xs.length < sizeLine ∧ Q .non (M.put p (.lst (xs ++ [y])))) := by
  show (opt (M p) fun o => _) = _
  rw [h] <;> rfl
theorem sub_ref {p : Addr} {km : Mem → Prop} (h : M p = some (.lst xs)) : wSub (.ref p) (.int u) d M km = opt (ixN xs.length u) fun j => km (M.put p (.lst (xs.set j d))) := by
  show (opt (M p) fun o => _) = _
  rw [h] <;> rfl
-- built-ins
@[simp] theorem len_str : wBlt .len [.str sa] M Q = Q (.int sa.length) M := rfl
@[simp] theorem len_tup : wBlt .len [.tup xs] M Q = Q (.int xs.length) M := rfl
@[simp] theorem len_lst : wBlt .len [.lst xs] M Q = Q (.int xs.length) M := rfl
@[simp] theorem len_ref {p : Addr} : wBlt .len [.ref p] M Q = opt (lsM M (.ref p)) fun ds => Q (.int ds.length) M := rfl
@[simp] theorem abs_int : wBlt .abs [.int u] M Q = Q (.int (if u < 0 then -u else u)) M := rfl
@[simp] theorem int_int : wBlt .int [.int u] M Q = Q (.int u) M := rfl
@[simp] theorem int_bl : wBlt .int [.bl kb] M Q = Q (.int (if kb then 1 else 0)) M := rfl
@[simp] theorem isi {ty : String} : wBlt .isinst [x, .ty ty] M Q = opt (tyM M x) fun t => opt (kitB t ty) fun k => Q (.bl k) M := by cases x <;> rfl
@[simp] theorem list_q : wBlt .list [x] M Q = opt (sqM M x) fun ds => Q (.lst ds) M := by cases x <;> rfl
@[simp] theorem tuple_q : wBlt .tuple [x] M Q = opt (sqM M x) fun ds => Q (.tup ds) M := by cases x <;> rfl
@[simp] theorem max_int : wBlt .max [.int u, .int v] M Q = Q (.int (if v > u then v else u)) M := rfl
@[simp] theorem min_int : wBlt .min [.int u, .int v] M Q = Q (.int (if v < u then v else u)) M := rfl
@[simp] theorem sum_q : wBlt .sum [x] M Q = opt (lsM M x) fun ds => opt (intsD ds) fun ns => Q (.int ns.sum) M := by cases x <;> rfl
@[simp] theorem all_q : wBlt .all [x] M Q = opt (lsM M x) fun ds => opt (blsD ds) fun ns => Q (.bl (ns.all id)) M := by cases x <;> rfl
@[simp] theorem any_q : wBlt .any [x] M Q = opt (lsM M x) fun ds => opt (blsD ds) fun ns => Q (.bl (ns.any id)) M := by cases x <;> rfl
@[simp] theorem bool_int : wBlt .bool [.int u] M Q = Q (.bl (u != 0)) M := rfl
@[simp] theorem bool_bl : wBlt .bool [.bl kb] M Q = Q (.bl kb) M := rfl
@[simp] theorem ty_non : tyM M .non = some "NoneType" := rfl
@[simp] theorem ty_bl : tyM M (.bl kb) = some "bool" := rfl
@[simp] theorem ty_int : tyM M (.int u) = some "int" := rfl
@[simp] theorem ty_str : tyM M (.str sa) = some "str" := rfl
@[simp] theorem ty_tup : tyM M (.tup xs) = some "tuple" := rfl
@[simp] theorem ty_lst : tyM M (.lst xs) = some "list" := rfl
-- what is walked, targets
@[simp] theorem rg1_int {kl : List D → Prop} : rg1 (.int u) kl = (small62 u ∧ kl (rngD 0 1 u.toNat)) := rfl
@[simp] theorem rg2_int {kl : List D → Prop} : rg2 (.int u) (.int v) kl = ((small62 u ∧ small62 v) ∧ kl (rngD u 1 (v - u).toNat)) := rfl
@[simp] theorem rg3_int {kl : List D → Prop} : rg3 (.int u) (.int v) (.int t) kl = ∃ n, RgC u v t n ∧ kl (rngD u t n) := rfl
@[simp] theorem tg_nm {ke : Ev → Prop} : wTg (.nm n) d M δ ke = ke (δ.set n (some d)) := rfl
@[simp] theorem tg_tp {ts : Tgs} {ke : Ev → Prop} : wTg (.tup ts) d M δ ke = opt (sqM M d) fun ds => ds.length = ts.len ∧ wTgs ts ds M δ ke := rfl
@[simp] theorem tgs_n {ke : Ev → Prop} : wTgs .nil [] M δ ke = ke δ := rfl
@[simp] theorem tgs_c {tg : Tg} {ts : Tgs} {ke : Ev → Prop} : wTgs (.cons tg ts) (d :: xs) M δ ke = wTg tg d M δ fun δ1 => wTgs ts xs M δ1 ke := rfl
@[simp] theorem tlen_n : Tgs.nil.len = 0 := rfl
@[simp] theorem tlen_c {tg : Tg} {ts : Tgs} : (Tgs.cons tg ts).len = ts.len + 1 := rfl
@[simp] theorem for_nil {st : D → WpS} {ch : Mem → Prop} : forGo st ch E [] δ M = (ch M ∧ E.nx δ M) := rfl
end
end DL
namespace U
open PySem PySem.Spec PyProof.Rows L2 DL
def ir_is_whole : Srs := (.cons (.ret (.and (.blt .isinst (.cons (.var 0) (.cons (.cst (.ty "int")) .nil))) (.not (.blt .isinst (.cons (.var 0) (.cons (.cst (.ty "bool")) .nil)))))) .nil)
def ir_shared_c1 : Ir := (.cmp .NotEq (.var 1) (.cst (.int 0)))
def ir_shared_b2 : Srs := (.cons (.par 0 1 (.var 1) (.bin .Mod (.var 0) (.var 1))) .nil)
def ir_shared : Srs := (.cons (.par 0 1 (.blt .abs (.cons (.var 0) .nil)) (.blt .abs (.cons (.var 1) .nil))) (.cons (.whl ir_shared_c1 ir_shared_b2) (.cons (.ret (.var 0)) .nil)))
def ir_fraction : Srs := (.cons (.ite (.or (.not (.call 0 (.cons (.var 0) .nil))) (.or (.not (.call 0 (.cons (.var 1) .nil))) (.cmp .Eq (.var 1) (.cst (.int 0))))) (.cons (.rse 0) .nil) .nil) (.cons (.set 2 (.call 1 (.cons (.var 0) (.cons (.var 1) .nil)))) (.cons (.set 2 (.ite (.cmp .Lt (.var 1) (.cst (.int 0))) (.neg (.var 2)) (.var 2))) (.cons (.ret (.tup (.cons (.bin .FloorDiv (.var 0) (.var 2)) (.cons (.bin .FloorDiv (.var 1) (.var 2)) .nil)))) .nil))))
def ir_is_fraction : Srs := (.cons (.ite (.or (.not (.blt .isinst (.cons (.var 0) (.cons (.cst (.ty "tuple")) .nil)))) (.or (.cmp .NotEq (.blt .len (.cons (.var 0) .nil)) (.cst (.int 2))) (.or (.not (.call 0 (.cons (.idx (.var 0) (.cst (.int 0))) .nil))) (.not (.call 0 (.cons (.idx (.var 0) (.cst (.int 1))) .nil)))))) (.cons (.ret (.cst (.bl false))) .nil) .nil) (.cons (.ret (.and (.cmp .Gt (.idx (.var 0) (.cst (.int 1))) (.cst (.int 0))) (.cmp .Eq (.call 1 (.cons (.idx (.var 0) (.cst (.int 0))) (.cons (.idx (.var 0) (.cst (.int 1))) .nil))) (.cst (.int 1))))) .nil))
def ir_plus : Srs := (.cons (.ret (.call 2 (.cons (.bin .Add (.bin .Mult (.idx (.var 0) (.cst (.int 0))) (.idx (.var 1) (.cst (.int 1)))) (.bin .Mult (.idx (.var 1) (.cst (.int 0))) (.idx (.var 0) (.cst (.int 1))))) (.cons (.bin .Mult (.idx (.var 0) (.cst (.int 1))) (.idx (.var 1) (.cst (.int 1)))) .nil)))) .nil)
def ir_minus : Srs := (.cons (.ret (.call 2 (.cons (.bin .Sub (.bin .Mult (.idx (.var 0) (.cst (.int 0))) (.idx (.var 1) (.cst (.int 1)))) (.bin .Mult (.idx (.var 1) (.cst (.int 0))) (.idx (.var 0) (.cst (.int 1))))) (.cons (.bin .Mult (.idx (.var 0) (.cst (.int 1))) (.idx (.var 1) (.cst (.int 1)))) .nil)))) .nil)
def ir_times : Srs := (.cons (.ret (.call 2 (.cons (.bin .Mult (.idx (.var 0) (.cst (.int 0))) (.idx (.var 1) (.cst (.int 0)))) (.cons (.bin .Mult (.idx (.var 0) (.cst (.int 1))) (.idx (.var 1) (.cst (.int 1)))) .nil)))) .nil)
def ir_over : Srs := (.cons (.ret (.call 2 (.cons (.bin .Mult (.idx (.var 0) (.cst (.int 0))) (.idx (.var 1) (.cst (.int 1)))) (.cons (.bin .Mult (.idx (.var 0) (.cst (.int 1))) (.idx (.var 1) (.cst (.int 0)))) .nil)))) .nil)
def ir_against : Srs := (.cons (.ret (.tup (.cons (.neg (.idx (.var 0) (.cst (.int 0)))) (.cons (.idx (.var 0) (.cst (.int 1))) .nil)))) .nil)
def ir_sized : Srs := (.cons (.ret (.tup (.cons (.blt .abs (.cons (.idx (.var 0) (.cst (.int 0))) .nil)) (.cons (.idx (.var 0) (.cst (.int 1))) .nil)))) .nil)
def ir_order : Srs := (.cons (.par 2 3 (.bin .Mult (.idx (.var 0) (.cst (.int 0))) (.idx (.var 1) (.cst (.int 1)))) (.bin .Mult (.idx (.var 1) (.cst (.int 0))) (.idx (.var 0) (.cst (.int 1))))) (.cons (.ret (.bin .Sub (.blt .int (.cons (.cmp .Gt (.var 2) (.var 3)) .nil)) (.blt .int (.cons (.cmp .Lt (.var 2) (.var 3)) .nil)))) .nil))
def ir_below : Srs := (.cons (.ret (.cmp .Lt (.call 11 (.cons (.var 0) (.cons (.var 1) .nil))) (.cst (.int 0)))) .nil)
def ir_at_most : Srs := (.cons (.ret (.cmp .LtE (.call 11 (.cons (.var 0) (.cons (.var 1) .nil))) (.cst (.int 0)))) .nil)
def ir_least_of_b1 : Srs := (.cons (.set 1 (.ite (.call 12 (.cons (.var 2) (.cons (.var 1) .nil))) (.var 2) (.var 1))) .nil)
def ir_least_of : Srs := (.cons (.set 1 (.idx (.var 0) (.cst (.int 0)))) (.cons (.for_ (.nm 2) (.val (.slc (.var 0) (.some (.cst (.int 1))) .none)) ir_least_of_b1) (.cons (.ret (.var 1)) .nil)))
def ir_most_of_e1 : Ir := (.call 9 (.cons (.var 1) .nil))
def ir_most_of : Srs := (.cons (.ret (.call 9 (.cons (.call 14 (.cons (.lc (.val (.var 0)) (.nm 1) (.cst (.bl true)) ir_most_of_e1 [1]) .nil)) .nil))) .nil)
def ir_floor : Srs := (.cons (.ret (.bin .FloorDiv (.idx (.var 0) (.cst (.int 0))) (.idx (.var 0) (.cst (.int 1))))) .nil)
def ir_ceiling : Srs := (.cons (.ret (.neg (.bin .FloorDiv (.neg (.idx (.var 0) (.cst (.int 0)))) (.idx (.var 0) (.cst (.int 1)))))) .nil)
def ir_power : Srs := (.cons (.ite (.cmp .GtE (.var 1) (.cst (.int 0))) (.cons (.ret (.tup (.cons (.call 18 (.cons (.var 0) (.cons (.var 1) .nil))) (.cons (.cst (.int 1)) .nil)))) .nil) .nil) (.cons (.ret (.ite (.cmp .Gt (.var 0) (.cst (.int 0))) (.tup (.cons (.cst (.int 1)) (.cons (.call 18 (.cons (.var 0) (.cons (.neg (.var 1)) .nil))) .nil))) (.call 2 (.cons (.cst (.int 1)) (.cons (.call 18 (.cons (.var 0) (.cons (.neg (.var 1)) .nil))) .nil))))) .nil))
def ir_raised_c1 : Ir := (.cmp .Gt (.var 1) (.cst (.int 0)))
def ir_raised_b2 : Srs := (.cons (.ite (.cmp .Eq (.bin .Mod (.var 1) (.cst (.int 2))) (.cst (.int 1))) (.cons (.set 2 (.bin .Mult (.var 2) (.var 3))) .nil) .nil) (.cons (.set 3 (.bin .Mult (.var 3) (.var 3))) (.cons (.aug 1 .FloorDiv (.cst (.int 2))) .nil)))
def ir_raised : Srs := (.cons (.par 2 3 (.cst (.int 1)) (.var 0)) (.cons (.whl ir_raised_c1 ir_raised_b2) (.cons (.ret (.var 2)) .nil)))
def ir_root_below_c1 : Ir := (.cst (.bl true))
def ir_root_below_b2 : Srs := (.cons (.set 2 (.bin .FloorDiv (.bin .Add (.var 1) (.bin .FloorDiv (.var 0) (.var 1))) (.cst (.int 2)))) (.cons (.ite (.cmp .GtE (.var 2) (.var 1)) (.cons (.ret (.var 1)) .nil) .nil) (.cons (.set 1 (.var 2)) .nil)))
def ir_root_below : Srs := (.cons (.ite (.cmp .Lt (.var 0) (.cst (.int 2))) (.cons (.ret (.var 0)) .nil) .nil) (.cons (.set 1 (.bin .LShift (.cst (.int 1)) (.bin .FloorDiv (.bin .Add (.bits (.var 0)) (.cst (.int 1))) (.cst (.int 2))))) (.cons (.whl ir_root_below_c1 ir_root_below_b2) .nil)))
def ir_digits_in_c1 : Ir := (.cmp .LtE (.idx (.var 2) (.neg (.cst (.int 1)))) (.var 0))
def ir_digits_in_b2 : Srs := (.cons (.drp (.app (.var 2) (.bin .Mult (.idx (.var 2) (.neg (.cst (.int 1)))) (.idx (.var 2) (.neg (.cst (.int 1))))))) .nil)
def ir_digits_in_b3 : Srs := (.cons (.ite (.cmp .LtE (.idx (.var 2) (.var 4)) (.var 0)) (.cons (.aug 0 .FloorDiv (.idx (.var 2) (.var 4))) (.cons (.aug 3 .Add (.bin .LShift (.cst (.int 1)) (.var 4))) .nil)) .nil) .nil)
def ir_digits_in : Srs := (.cons (.set 2 (.mls (.cons (.var 1) .nil))) (.cons (.whl ir_digits_in_c1 ir_digits_in_b2) (.cons (.set 3 (.cst (.int 0))) (.cons (.for_ (.nm 4) (.rng3 (.bin .Sub (.blt .len (.cons (.var 2) .nil)) (.cst (.int 1))) (.neg (.cst (.int 1))) (.neg (.cst (.int 1)))) ir_digits_in_b3) (.cons (.ret (.bin .Add (.var 3) (.ite (.cmp .Gt (.var 0) (.cst (.int 0))) (.cst (.int 1)) (.cst (.int 0))))) .nil)))))
def ir_law_draws : Srs := (.cons (.ret (.mls (.cons (.blt .list (.cons (.var 0) .nil)) (.cons (.cst (.int 0)) (.cons (.cst (.int 0)) (.cons (.cst (.int 1)) .nil)))))) .nil)
def ir_law_draw : Srs := (.cons (.ite (.and (.cmp .Eq (.idx (.var 0) (.cst (.int 2))) (.cst (.int 0))) (.cmp .Lt (.idx (.var 0) (.cst (.int 1))) (.blt .len (.cons (.idx (.var 0) (.cst (.int 0))) .nil)))) (.cons (.set 2 (.idx (.idx (.var 0) (.cst (.int 0))) (.idx (.var 0) (.cst (.int 1))))) (.cons (.sub (.var 0) (.cst (.int 1)) (.bin .Add (.idx (.var 0) (.cst (.int 1))) (.cst (.int 1)))) (.cons (.ite (.cmp .GtE (.var 2) (.bin .Pow (.cst (.int 10)) (.cst (.int 18)))) (.cons (.sub (.var 0) (.cst (.int 2)) (.var 2)) .nil) .nil) (.cons (.sub (.var 0) (.cst (.int 3)) (.bin .Mod (.blt .int (.cons (.bin .Add (.bin .Add (.bin .Mult (.idx (.var 0) (.cst (.int 3))) (.cst (.int 48271))) (.var 2)) (.cst (.int 13))) .nil)) (.cst (.int 2147483647)))) .nil)))) .nil) (.cons (.ite (.cmp .Gt (.idx (.var 0) (.cst (.int 2))) (.cst (.int 0))) (.cons (.set 3 (.bin .Mod (.blt .int (.cons (.idx (.var 0) (.cst (.int 2))) .nil)) (.var 1))) (.cons (.sub (.var 0) (.cst (.int 2)) (.bin .FloorDiv (.idx (.var 0) (.cst (.int 2))) (.var 1))) (.cons (.ret (.var 3)) .nil))) .nil) (.cons (.sub (.var 0) (.cst (.int 3)) (.bin .Mod (.blt .int (.cons (.bin .Add (.bin .Mult (.idx (.var 0) (.cst (.int 3))) (.cst (.int 69621))) (.cst (.int 7))) .nil)) (.cst (.int 2147483629)))) (.cons (.ret (.bin .Mod (.blt .int (.cons (.bin .FloorDiv (.idx (.var 0) (.cst (.int 3))) (.cst (.int 11))) .nil)) (.var 1))) .nil))))
def ir_law_same_t1 : Ir := (.not (.call 24 (.cons (.idx (.var 0) (.var 2)) (.cons (.idx (.var 1) (.var 2)) .nil))))
def ir_law_same_e2 : Ir := (.var 2)
def ir_law_same : Srs := (.cons (.ite (.or (.blt .isinst (.cons (.var 1) (.cons (.cst (.ty "tuple")) .nil))) (.blt .isinst (.cons (.var 1) (.cons (.cst (.ty "list")) .nil)))) (.cons (.ite (.or (.cmp .NotEq (.blt .isinst (.cons (.var 1) (.cons (.cst (.ty "tuple")) .nil))) (.blt .isinst (.cons (.var 0) (.cons (.cst (.ty "tuple")) .nil)))) (.cmp .NotEq (.blt .isinst (.cons (.var 1) (.cons (.cst (.ty "list")) .nil))) (.blt .isinst (.cons (.var 0) (.cons (.cst (.ty "list")) .nil))))) (.cons (.ret (.cst (.bl false))) .nil) .nil) (.cons (.ite (.cmp .NotEq (.blt .len (.cons (.var 0) .nil)) (.blt .len (.cons (.var 1) .nil))) (.cons (.ret (.cst (.bl false))) .nil) .nil) (.cons (.ret (.cmp .Eq (.blt .len (.cons (.lc (.rng1 (.blt .len (.cons (.var 1) .nil))) (.nm 2) ir_law_same_t1 ir_law_same_e2 [2]) .nil)) (.cst (.int 0)))) .nil))) .nil) (.cons (.ite (.blt .isinst (.cons (.var 1) (.cons (.cst (.ty "str")) .nil))) (.cons (.ret (.and (.blt .isinst (.cons (.var 0) (.cons (.cst (.ty "str")) .nil))) (.cmp .Eq (.var 0) (.var 1)))) .nil) .nil) (.cons (.ite (.cmp .Is (.var 1) (.cst .non)) (.cons (.ret (.cmp .Is (.var 0) (.cst .non))) .nil) .nil) (.cons (.ite (.or (.blt .isinst (.cons (.var 1) (.cons (.cst (.ty "bool")) .nil))) (.blt .isinst (.cons (.var 0) (.cons (.cst (.ty "bool")) .nil)))) (.cons (.ret (.and (.blt .isinst (.cons (.var 1) (.cons (.cst (.ty "bool")) .nil))) (.and (.blt .isinst (.cons (.var 0) (.cons (.cst (.ty "bool")) .nil))) (.cmp .Eq (.var 0) (.var 1))))) .nil) .nil) (.cons (.ret (.and (.blt .isinst (.cons (.var 0) (.cons (.cst (.ty "int")) .nil))) (.and (.blt .isinst (.cons (.var 1) (.cons (.cst (.ty "int")) .nil))) (.cmp .Eq (.var 0) (.var 1))))) .nil)))))
def ir_law_low_c1 : Ir := (.cmp .NotEq (.var 3) (.cst (.int 0)))
def ir_law_low_b2 : Srs := (.cons (.par 2 3 (.var 3) (.bin .Mod (.var 2) (.var 3))) .nil)
def ir_law_low : Srs := (.cons (.par 2 3 (.blt .abs (.cons (.var 0) .nil)) (.blt .abs (.cons (.var 1) .nil))) (.cons (.whl ir_law_low_c1 ir_law_low_b2) (.cons (.set 2 (.ite (.cmp .Gt (.var 1) (.cst (.int 0))) (.var 2) (.bin .Sub (.cst (.int 0)) (.var 2)))) (.cons (.ret (.tup (.cons (.bin .FloorDiv (.var 0) (.var 2)) (.cons (.bin .FloorDiv (.var 1) (.var 2)) .nil)))) .nil))))
def ir_law_bad : Srs := (.cons (.try1 (.cons (.drp (.calv 0 (.cons (.var 1) (.cons (.var 2) .nil)))) .nil) 0 (.cons (.ret (.cst (.bl true))) .nil)) (.cons (.ret (.cst (.bl false))) .nil))
def ir_law_k00_b1 : Srs := (.cons (.ite (.not (.call 24 (.cons (.calv 12 (.cons (.var 9) (.cons (.var 10) .nil))) (.cons (.call 25 (.cons (.var 13) (.cons (.var 14) .nil))) .nil)))) (.cons (.ret (.cst (.bl false))) .nil) .nil) .nil)
def ir_law_k00_b2 : Srs := (.cons (.set 20 (.bin .Mult (.var 20) (.var 18))) .nil)
def ir_law_k00_c3 : Ir := (.cmp .Gt (.var 15) (.cst (.int 0)))
def ir_law_k00_b4 : Srs := (.cons (.par 15 24 (.bin .FloorDiv (.var 15) (.var 18)) (.bin .Add (.var 24) (.cst (.int 1)))) .nil)
def ir_law_k00_k5 : Srs := (.cons (.ite (.or (.not (.call 24 (.cons (.call 21 (.cons (.var 22) (.cons (.var 18) .nil))) (.cons (.var 24) .nil)))) (.not (.call 24 (.cons (.call 1 (.cons (.var 3) (.cons (.var 4) .nil))) (.cons (.blt .abs (.cons (.bin .FloorDiv (.var 4) (.idx (.call 25 (.cons (.var 3) (.cons (.var 4) .nil))) (.cst (.int 1)))) .nil)) .nil))))) (.cons (.ret (.cst (.bl false))) .nil) .nil) .nil)
def ir_law_k00_k6 : Srs := (.cons (.whl ir_law_k00_c3 ir_law_k00_b4) ir_law_k00_k5)
def ir_law_k00_k7 : Srs := (.cons (.par 15 24 (.var 22) (.cst (.int 0))) ir_law_k00_k6)
def ir_law_k00_k8 : Srs := (.cons (.ite (.or (.not (.chn .LtE .Lt (.bin .Mult (.var 23) (.var 23)) (.var 22) (.bin .Mult (.bin .Add (.var 23) (.cst (.int 1))) (.bin .Add (.var 23) (.cst (.int 1)))))) (.not (.call 24 (.cons (.call 20 (.cons (.bin .Mult (.var 23) (.var 23)) .nil)) (.cons (.var 23) .nil))))) (.cons (.ret (.cst (.bl false))) .nil) .nil) ir_law_k00_k7)
def ir_law_k00_k9 : Srs := (.cons (.set 23 (.call 20 (.cons (.var 22) .nil))) ir_law_k00_k8)
def ir_law_k00_k10 : Srs := (.cons (.set 22 (.bin .Mult (.call 23 (.cons (.var 1) (.cons (.cst (.int 100000)) .nil))) (.call 23 (.cons (.var 1) (.cons (.cst (.int 100000)) .nil))))) ir_law_k00_k9)
def ir_law_k00_k11 : Srs := (.cons (.ite (.or (.not (.call 24 (.cons (.call 18 (.cons (.var 18) (.cons (.var 19) .nil))) (.cons (.var 20) .nil)))) (.or (.not (.call 24 (.cons (.call 19 (.cons (.var 18) (.cons (.var 19) .nil))) (.cons (.tup (.cons (.var 20) (.cons (.cst (.int 1)) .nil))) .nil)))) (.not (.call 24 (.cons (.call 19 (.cons (.var 18) (.cons (.bin .Sub (.cst (.int 0)) (.var 19)) .nil))) (.cons (.tup (.cons (.cst (.int 1)) (.cons (.var 20) .nil))) .nil)))))) (.cons (.ret (.cst (.bl false))) .nil) .nil) ir_law_k00_k10)
def ir_law_k00_k12 : Srs := (.cons (.for_ (.nm 21) (.rng1 (.var 19)) ir_law_k00_b2) ir_law_k00_k11)
def ir_law_k00_k13 : Srs := (.cons (.set 20 (.cst (.int 1))) ir_law_k00_k12)
def ir_law_k00_k14 : Srs := (.cons (.par 18 19 (.bin .Add (.cst (.int 2)) (.call 23 (.cons (.var 1) (.cons (.cst (.int 15)) .nil)))) (.call 23 (.cons (.var 1) (.cons (.cst (.int 9)) .nil)))) ir_law_k00_k13)
def ir_law_k00_k15 : Srs := (.cons (.ite (.or (.not (.chn .LtE .Lt (.bin .Mult (.var 17) (.var 4)) (.var 3) (.bin .Mult (.bin .Add (.var 17) (.cst (.int 1))) (.var 4)))) (.not (.call 24 (.cons (.call 17 (.cons (.var 9) .nil)) (.cons (.ite (.cmp .Eq (.bin .Mult (.var 17) (.var 4)) (.var 3)) (.var 17) (.bin .Add (.var 17) (.cst (.int 1)))) .nil))))) (.cons (.ret (.cst (.bl false))) .nil) .nil) ir_law_k00_k14)
def ir_law_k00_k16 : Srs := (.cons (.set 17 (.call 16 (.cons (.var 9) .nil))) ir_law_k00_k15)
def ir_law_k00_k17 : Srs := (.cons (.ite (.not (.call 24 (.cons (.call 15 (.cons (.tup (.cons (.var 9) (.cons (.var 10) .nil))) .nil)) (.cons (.ite (.cmp .Gt (.var 15) (.var 16)) (.var 9) (.ite (.cmp .Gt (.var 16) (.var 15)) (.var 10) (.var 9))) .nil)))) (.cons (.ret (.cst (.bl false))) .nil) .nil) ir_law_k00_k16)
def ir_law_k00_k18 : Srs := (.cons (.ite (.not (.call 24 (.cons (.call 14 (.cons (.lst (.cons (.var 9) (.cons (.var 10) .nil))) .nil)) (.cons (.ite (.cmp .Lt (.var 15) (.var 16)) (.var 9) (.ite (.cmp .Lt (.var 16) (.var 15)) (.var 10) (.var 9))) .nil)))) (.cons (.ret (.cst (.bl false))) .nil) .nil) ir_law_k00_k17)
def ir_law_k00_k19 : Srs := (.cons (.ite (.not (.call 24 (.cons (.tup (.cons (.call 9 (.cons (.var 9) .nil)) (.cons (.call 10 (.cons (.var 9) .nil)) .nil))) (.cons (.tup (.cons (.tup (.cons (.bin .Sub (.cst (.int 0)) (.idx (.var 9) (.cst (.int 0)))) (.cons (.idx (.var 9) (.cst (.int 1))) .nil))) (.cons (.tup (.cons (.blt .abs (.cons (.idx (.var 9) (.cst (.int 0))) .nil)) (.cons (.idx (.var 9) (.cst (.int 1))) .nil))) .nil))) .nil)))) (.cons (.ret (.cst (.bl false))) .nil) .nil) ir_law_k00_k18)
def ir_law_k00_k20 : Srs := (.cons (.ite (.or (.not (.call 24 (.cons (.call 11 (.cons (.var 9) (.cons (.var 10) .nil))) (.cons (.ite (.cmp .Gt (.var 15) (.var 16)) (.cst (.int 1)) (.ite (.cmp .Lt (.var 15) (.var 16)) (.neg (.cst (.int 1))) (.cst (.int 0)))) .nil)))) (.or (.not (.call 24 (.cons (.call 12 (.cons (.var 9) (.cons (.var 10) .nil))) (.cons (.cmp .Lt (.var 15) (.var 16)) .nil)))) (.not (.call 24 (.cons (.call 13 (.cons (.var 9) (.cons (.var 10) .nil))) (.cons (.cmp .LtE (.var 15) (.var 16)) .nil)))))) (.cons (.ret (.cst (.bl false))) .nil) .nil) ir_law_k00_k19)
def ir_law_k00_k21 : Srs := (.cons (.par 15 16 (.bin .Mult (.var 3) (.var 6)) (.bin .Mult (.var 5) (.var 4))) ir_law_k00_k20)
def ir_law_k00_k22 : Srs := (.cons (.ite (.or (.and (.cmp .NotEq (.var 5) (.cst (.int 0))) (.not (.call 24 (.cons (.call 8 (.cons (.var 9) (.cons (.var 10) .nil))) (.cons (.call 25 (.cons (.bin .Mult (.var 3) (.var 6)) (.cons (.bin .Mult (.var 4) (.var 5)) .nil))) .nil))))) (.not (.call 26 (.cons (.cst (.fn 8)) (.cons (.var 9) (.cons (.tup (.cons (.cst (.int 0)) (.cons (.cst (.int 1)) .nil))) .nil)))))) (.cons (.ret (.cst (.bl false))) .nil) .nil) ir_law_k00_k21)
def ir_law_k00_k23 : Srs := (.cons (.for_ (.tup (.cons (.nm 12) (.cons (.nm 13) (.cons (.nm 14) .nil)))) (.val (.var 11)) ir_law_k00_b1) ir_law_k00_k22)
def ir_law_k00_k24 : Srs := (.cons (.set 11 (.lst (.cons (.tup (.cons (.cst (.fn 5)) (.cons (.bin .Add (.bin .Mult (.var 3) (.var 6)) (.bin .Mult (.var 5) (.var 4))) (.cons (.bin .Mult (.var 4) (.var 6)) .nil)))) (.cons (.tup (.cons (.cst (.fn 6)) (.cons (.bin .Sub (.bin .Mult (.var 3) (.var 6)) (.bin .Mult (.var 5) (.var 4))) (.cons (.bin .Mult (.var 4) (.var 6)) .nil)))) (.cons (.tup (.cons (.cst (.fn 7)) (.cons (.bin .Mult (.var 3) (.var 5)) (.cons (.bin .Mult (.var 4) (.var 6)) .nil)))) .nil))))) ir_law_k00_k23)
def ir_law_k00_k25 : Srs := (.cons (.par 9 10 (.call 25 (.cons (.var 3) (.cons (.var 4) .nil))) (.call 25 (.cons (.var 5) (.cons (.var 6) .nil)))) ir_law_k00_k24)
def ir_law_k00_k26 : Srs := (.cons (.ite (.or (.not (.call 24 (.cons (.tup (.cons (.var 7) (.cons (.var 8) .nil))) (.cons (.tup (.cons (.call 25 (.cons (.var 3) (.cons (.var 4) .nil))) (.cons (.call 25 (.cons (.bin .Sub (.cst (.int 0)) (.var 5)) (.cons (.var 6) .nil))) .nil))) .nil)))) (.or (.cmp .IsNot (.call 4 (.cons (.var 7) .nil)) (.cst (.bl true))) (.not (.call 24 (.cons (.call 3 (.cons (.var 3) .nil)) (.cons (.tup (.cons (.var 3) (.cons (.cst (.int 1)) .nil))) .nil)))))) (.cons (.ret (.cst (.bl false))) .nil) .nil) ir_law_k00_k25)
def ir_law_k00_k27 : Srs := (.cons (.par 7 8 (.call 2 (.cons (.var 3) (.cons (.var 4) .nil))) (.call 2 (.cons (.var 5) (.cons (.bin .Sub (.cst (.int 0)) (.var 6)) .nil)))) ir_law_k00_k26)
def ir_law_k00_b28 : Srs := (.cons (.asg (.tup (.cons (.nm 3) (.cons (.nm 4) (.cons (.nm 5) (.cons (.nm 6) .nil))))) (.tup (.cons (.bin .Sub (.call 23 (.cons (.var 1) (.cons (.cst (.int 200)) .nil))) (.cst (.int 100))) (.cons (.bin .Add (.cst (.int 1)) (.call 23 (.cons (.var 1) (.cons (.cst (.int 60)) .nil)))) (.cons (.bin .Sub (.call 23 (.cons (.var 1) (.cons (.cst (.int 200)) .nil))) (.cst (.int 100))) (.cons (.bin .Add (.cst (.int 1)) (.call 23 (.cons (.var 1) (.cons (.cst (.int 60)) .nil)))) .nil)))))) ir_law_k00_k27)
def ir_law_k00_b29 : Srs := (.cons (.ite (.cmp .IsNot (.call 4 (.cons (.var 25) .nil)) (.cst (.bl false))) (.cons (.ret (.cst (.bl false))) .nil) .nil) .nil)
def ir_law_k00_k30 : Srs := (.cons (.ret (.and (.call 26 (.cons (.cst (.fn 2)) (.cons (.cst (.int 1)) (.cons (.cst (.int 0)) .nil)))) (.and (.call 26 (.cons (.cst (.fn 2)) (.cons (.cst .non) (.cons (.cst (.int 1)) .nil)))) (.and (.call 26 (.cons (.cst (.fn 2)) (.cons (.cst (.int 1)) (.cons (.cst (.bl true)) .nil)))) (.call 26 (.cons (.cst (.fn 2)) (.cons (.cst (.str "1")) (.cons (.cst (.int 1)) .nil)))))))) .nil)
def ir_law_k00_k31 : Srs := (.cons (.ite (.or (.cmp .IsNot (.call 4 (.cons (.tup (.cons (.cst (.int 0)) (.cons (.cst (.int 1)) .nil))) .nil)) (.cst (.bl true))) (.or (.cmp .IsNot (.call 0 (.cons (.cst (.bl true)) .nil)) (.cst (.bl false))) (.or (.cmp .IsNot (.call 0 (.cons (.cst (.int 3)) .nil)) (.cst (.bl true))) (.or (.cmp .IsNot (.call 0 (.cons (.cst (.str "3")) .nil)) (.cst (.bl false))) (.cmp .IsNot (.call 0 (.cons (.cst .non) .nil)) (.cst (.bl false))))))) (.cons (.ret (.cst (.bl false))) .nil) .nil) ir_law_k00_k30)
def ir_law_k00_k32 : Srs := (.cons (.for_ (.nm 25) (.val (.lst (.cons (.cst .non) (.cons (.tup (.cons (.cst (.int 1)) .nil)) (.cons (.lst (.cons (.cst (.int 1)) (.cons (.cst (.int 2)) .nil))) (.cons (.tup (.cons (.cst (.int 2)) (.cons (.cst (.int 4)) .nil))) (.cons (.tup (.cons (.cst (.int 1)) (.cons (.cst (.int 0)) .nil))) (.cons (.tup (.cons (.cst (.int 1)) (.cons (.neg (.cst (.int 2))) .nil))) (.cons (.tup (.cons (.cst (.bl true)) (.cons (.cst (.int 2)) .nil))) (.cons (.tup (.cons (.cst (.int 1)) (.cons (.cst (.bl true)) .nil))) (.cons (.tup (.cons (.cst (.str "1")) (.cons (.cst (.int 2)) .nil))) (.cons (.tup (.cons (.cst (.int 0)) (.cons (.cst (.int 2)) .nil))) .nil)))))))))))) ir_law_k00_b29) ir_law_k00_k31)
def ir_law_k00_k33 : Srs := (.cons (.for_ (.nm 2) (.rng1 (.cst (.int 8))) ir_law_k00_b28) ir_law_k00_k32)
def ir_law_k00 : Srs := (.cons (.set 1 (.call 22 (.cons (.var 0) .nil))) ir_law_k00_k33)
end U
namespace U
open PySem PySem.Spec PyProof.Rows L2 DL
def ir_is_format_e1 : Ir := (.call 0 (.cons (.var 6) .nil))
def ir_is_format : Srs := (.cons (.ite (.or (.not (.blt .isinst (.cons (.var 0) (.cons (.cst (.ty "tuple")) .nil)))) (.or (.cmp .NotEq (.blt .len (.cons (.var 0) .nil)) (.cst (.int 5))) (.not (.blt .all (.cons (.lc (.val (.slc (.var 0) .none (.some (.cst (.int 4))))) (.nm 6) (.cst (.bl true)) ir_is_format_e1 [6]) .nil))))) (.cons (.ret (.cst (.bl false))) .nil) .nil) (.cons (.asg (.tup (.cons (.nm 1) (.cons (.nm 2) (.cons (.nm 3) (.cons (.nm 4) (.cons (.nm 5) .nil)))))) (.var 0)) (.cons (.ite (.or (.not (.chn .LtE .LtE (.cst (.int 2)) (.var 1) (.cst (.int 16)))) (.or (.not (.chn .LtE .LtE (.cst (.int 1)) (.var 2) (.cst (.int 120)))) (.not (.blt .isinst (.cons (.var 5) (.cons (.cst (.ty "bool")) .nil)))))) (.cons (.ret (.cst (.bl false))) .nil) .nil) (.cons (.ret (.chn3 .LtE .LtE .LtE (.neg (.cst (.int 5000))) (.var 3) (.var 4) (.cst (.int 5000)))) .nil))))
def ir_look_at_format : Srs := (.cons (.ite (.not (.call 27 (.cons (.var 0) .nil))) (.cons (.rse 1) .nil) .nil) .nil)
def ir_is_mode : Srs := (.cons (.ret (.and (.blt .isinst (.cons (.var 0) (.cons (.cst (.ty "str")) .nil))) (.cmp .In (.var 0) (.cst (.tup [.str "even", .str "away", .str "up", .str "down", .str "zero", .str "odd"]))))) .nil)
def ir_look_at_mode : Srs := (.cons (.ite (.not (.call 29 (.cons (.var 0) .nil))) (.cons (.rse 1) .nil) .nil) .nil)
def ir_full : Srs := (.cons (.ret (.call 18 (.cons (.idx (.var 0) (.cst (.int 0))) (.cons (.bin .Sub (.idx (.var 0) (.cst (.int 1))) (.cst (.int 1))) .nil)))) .nil)
def ir_above : Srs := (.cons (.ret (.call 18 (.cons (.idx (.var 0) (.cst (.int 0))) (.cons (.idx (.var 0) (.cst (.int 1))) .nil)))) .nil)
def ir_how_many : Srs := (.cons (.drp (.call 28 (.cons (.var 0) .nil))) (.cons (.asg (.tup (.cons (.nm 1) (.cons (.nm 2) (.cons (.nm 3) (.cons (.nm 4) (.cons (.nm 5) .nil)))))) (.var 0)) (.cons (.ret (.bin .Add (.bin .Mult (.bin .Add (.bin .Sub (.var 4) (.var 3)) (.cst (.int 1))) (.bin .Sub (.call 32 (.cons (.var 0) .nil)) (.call 31 (.cons (.var 0) .nil)))) (.ite (.var 5) (.bin .Sub (.call 31 (.cons (.var 0) .nil)) (.cst (.int 1))) (.cst (.int 0))))) .nil)))
def ir_is_part : Srs := (.cons (.drp (.call 28 (.cons (.var 0) .nil))) (.cons (.drp (.call 28 (.cons (.var 1) .nil))) (.cons (.ite (.cmp .NotEq (.idx (.var 0) (.cst (.int 0))) (.idx (.var 1) (.cst (.int 0)))) (.cons (.ret (.cst (.bl false))) .nil) .nil) (.cons (.ite (.not (.idx (.var 0) (.cst (.int 4)))) (.cons (.ret (.call 34 (.cons (.var 0) (.cons (.var 1) .nil)))) .nil) .nil) (.cons (.ite (.idx (.var 1) (.cst (.int 4))) (.cons (.ret (.and (.cmp .GtE (.idx (.var 0) (.cst (.int 2))) (.idx (.var 1) (.cst (.int 2)))) (.call 34 (.cons (.var 0) (.cons (.var 1) .nil))))) .nil) .nil) (.cons (.ret (.or (.and (.cmp .Eq (.idx (.var 0) (.cst (.int 1))) (.cst (.int 1))) (.call 34 (.cons (.var 0) (.cons (.var 1) .nil)))) (.call 35 (.cons (.var 0) (.cons (.var 1) .nil))))) .nil))))))
def ir_is_low_part : Srs := (.cons (.ret (.and (.cmp .GtE (.bin .Sub (.idx (.var 0) (.cst (.int 2))) (.bin .Sub (.idx (.var 1) (.cst (.int 1))) (.cst (.int 1)))) (.idx (.var 1) (.cst (.int 2)))) (.call 34 (.cons (.var 0) (.cons (.var 1) .nil))))) .nil)
def ir_is_full_part : Srs := (.cons (.ite (.or (.cmp .Gt (.idx (.var 0) (.cst (.int 1))) (.idx (.var 1) (.cst (.int 1)))) (.cmp .Gt (.bin .Add (.idx (.var 0) (.cst (.int 3))) (.idx (.var 0) (.cst (.int 1)))) (.bin .Add (.idx (.var 1) (.cst (.int 3))) (.idx (.var 1) (.cst (.int 1)))))) (.cons (.ret (.cst (.bl false))) .nil) .nil) (.cons (.set 2 (.ite (.idx (.var 1) (.cst (.int 4))) (.idx (.var 1) (.cst (.int 2))) (.bin .Sub (.bin .Add (.idx (.var 1) (.cst (.int 2))) (.idx (.var 1) (.cst (.int 1)))) (.idx (.var 0) (.cst (.int 1)))))) (.cons (.ret (.cmp .GtE (.idx (.var 0) (.cst (.int 2))) (.var 2))) .nil)))
def ir_is_value : Srs := (.cons (.drp (.call 28 (.cons (.var 0) .nil))) (.cons (.ite (.or (.not (.blt .isinst (.cons (.var 1) (.cons (.cst (.ty "tuple")) .nil)))) (.or (.cmp .Eq (.blt .len (.cons (.var 1) .nil)) (.cst (.int 0))) (.not (.blt .isinst (.cons (.idx (.var 1) (.cst (.int 0))) (.cons (.cst (.ty "str")) .nil)))))) (.cons (.ret (.cst (.bl false))) .nil) .nil) (.cons (.ite (.cmp .Eq (.idx (.var 1) (.cst (.int 0))) (.cst (.str "nan"))) (.cons (.ret (.cmp .Eq (.blt .len (.cons (.var 1) .nil)) (.cst (.int 1)))) .nil) .nil) (.cons (.ite (.or (.cmp .Lt (.blt .len (.cons (.var 1) .nil)) (.cst (.int 2))) (.or (.not (.call 0 (.cons (.idx (.var 1) (.cst (.int 1))) .nil))) (.cmp .NotIn (.idx (.var 1) (.cst (.int 1))) (.tup (.cons (.cst (.int 1)) (.cons (.neg (.cst (.int 1))) .nil)))))) (.cons (.ret (.cst (.bl false))) .nil) .nil) (.cons (.ite (.cmp .In (.idx (.var 1) (.cst (.int 0))) (.tup (.cons (.cst (.str "zero")) (.cons (.cst (.str "inf")) .nil)))) (.cons (.ret (.cmp .Eq (.blt .len (.cons (.var 1) .nil)) (.cst (.int 2)))) .nil) .nil) (.cons (.ite (.or (.cmp .NotEq (.idx (.var 1) (.cst (.int 0))) (.cst (.str "num"))) (.or (.cmp .NotEq (.blt .len (.cons (.var 1) .nil)) (.cst (.int 4))) (.or (.not (.call 0 (.cons (.idx (.var 1) (.cst (.int 2))) .nil))) (.not (.call 0 (.cons (.idx (.var 1) (.cst (.int 3))) .nil)))))) (.cons (.ret (.cst (.bl false))) .nil) .nil) (.cons (.par 2 3 (.idx (.var 1) (.cst (.int 2))) (.idx (.var 1) (.cst (.int 3)))) (.cons (.ite (.or (.not (.chn .LtE .LtE (.idx (.var 0) (.cst (.int 2))) (.var 3) (.idx (.var 0) (.cst (.int 3))))) (.not (.chn .LtE .Lt (.cst (.int 1)) (.var 2) (.call 32 (.cons (.var 0) .nil))))) (.cons (.ret (.cst (.bl false))) .nil) .nil) (.cons (.ret (.or (.cmp .GtE (.var 2) (.call 31 (.cons (.var 0) .nil))) (.and (.idx (.var 0) (.cst (.int 4))) (.cmp .Eq (.var 3) (.idx (.var 0) (.cst (.int 2))))))) .nil)))))))))
def ir_look_at_value : Srs := (.cons (.ite (.not (.call 37 (.cons (.var 0) (.cons (.var 1) .nil)))) (.cons (.rse 1) .nil) .nil) .nil)
def ir_exact : Srs := (.cons (.drp (.call 38 (.cons (.var 0) (.cons (.var 1) .nil)))) (.cons (.ite (.cmp .Eq (.idx (.var 1) (.cst (.int 0))) (.cst (.str "zero"))) (.cons (.ret (.cst (.tup [.int 0, .int 1]))) .nil) .nil) (.cons (.ite (.cmp .NotEq (.idx (.var 1) (.cst (.int 0))) (.cst (.str "num"))) (.cons (.rse 1) .nil) .nil) (.cons (.ret (.call 7 (.cons (.tup (.cons (.bin .Mult (.idx (.var 1) (.cst (.int 1))) (.idx (.var 1) (.cst (.int 2)))) (.cons (.cst (.int 1)) .nil))) (.cons (.call 19 (.cons (.idx (.var 0) (.cst (.int 0))) (.cons (.idx (.var 1) (.cst (.int 3))) .nil))) .nil)))) .nil))))
def ir_rank_k1 : Srs := (.cons (.ret (.bin .Mult (.idx (.var 1) (.cst (.int 1))) (.bin .Add (.bin .Sub (.bin .Add (.bin .Add (.var 2) (.bin .Mult (.bin .Sub (.idx (.var 1) (.cst (.int 3))) (.idx (.var 0) (.cst (.int 2)))) (.var 3))) (.idx (.var 1) (.cst (.int 2)))) (.call 31 (.cons (.var 0) .nil))) (.cst (.int 1))))) .nil)
def ir_rank_k2 : Srs := (.cons (.set 3 (.bin .Sub (.call 32 (.cons (.var 0) .nil)) (.call 31 (.cons (.var 0) .nil)))) ir_rank_k1)
def ir_rank_k3 : Srs := (.cons (.ite (.cmp .Lt (.idx (.var 1) (.cst (.int 2))) (.call 31 (.cons (.var 0) .nil))) (.cons (.ret (.bin .Mult (.idx (.var 1) (.cst (.int 1))) (.idx (.var 1) (.cst (.int 2))))) .nil) .nil) ir_rank_k2)
def ir_rank_k4 : Srs := (.cons (.set 2 (.ite (.idx (.var 0) (.cst (.int 4))) (.bin .Sub (.call 31 (.cons (.var 0) .nil)) (.cst (.int 1))) (.cst (.int 0)))) ir_rank_k3)
def ir_rank_k5 : Srs := (.cons (.ite (.cmp .Eq (.idx (.var 1) (.cst (.int 0))) (.cst (.str "inf"))) (.cons (.ret (.bin .Mult (.idx (.var 1) (.cst (.int 1))) (.bin .Add (.call 33 (.cons (.var 0) .nil)) (.cst (.int 1))))) .nil) .nil) ir_rank_k4)
def ir_rank_k6 : Srs := (.cons (.ite (.cmp .Eq (.idx (.var 1) (.cst (.int 0))) (.cst (.str "zero"))) (.cons (.ret (.cst (.int 0))) .nil) .nil) ir_rank_k5)
def ir_rank_k7 : Srs := (.cons (.ite (.cmp .Eq (.idx (.var 1) (.cst (.int 0))) (.cst (.str "nan"))) (.cons (.rse 1) .nil) .nil) ir_rank_k6)
def ir_rank : Srs := (.cons (.drp (.call 38 (.cons (.var 0) (.cons (.var 1) .nil)))) ir_rank_k7)
def ir_at_rank_k1 : Srs := (.cons (.ret (.tup (.cons (.cst (.str "num")) (.cons (.var 2) (.cons (.bin .Add (.call 31 (.cons (.var 0) .nil)) (.bin .Mod (.bin .Sub (.bin .Sub (.var 3) (.var 4)) (.cst (.int 1))) (.var 5))) (.cons (.bin .Add (.idx (.var 0) (.cst (.int 2))) (.bin .FloorDiv (.bin .Sub (.bin .Sub (.var 3) (.var 4)) (.cst (.int 1))) (.var 5))) .nil)))))) .nil)
def ir_at_rank_k2 : Srs := (.cons (.set 5 (.bin .Sub (.call 32 (.cons (.var 0) .nil)) (.call 31 (.cons (.var 0) .nil)))) ir_at_rank_k1)
def ir_at_rank_k3 : Srs := (.cons (.ite (.cmp .LtE (.var 3) (.var 4)) (.cons (.ret (.tup (.cons (.cst (.str "num")) (.cons (.var 2) (.cons (.var 3) (.cons (.idx (.var 0) (.cst (.int 2))) .nil)))))) .nil) .nil) ir_at_rank_k2)
def ir_at_rank_k4 : Srs := (.cons (.set 4 (.ite (.idx (.var 0) (.cst (.int 4))) (.bin .Sub (.call 31 (.cons (.var 0) .nil)) (.cst (.int 1))) (.cst (.int 0)))) ir_at_rank_k3)
def ir_at_rank_k5 : Srs := (.cons (.ite (.cmp .Eq (.var 3) (.bin .Add (.call 33 (.cons (.var 0) .nil)) (.cst (.int 1)))) (.cons (.ret (.tup (.cons (.cst (.str "inf")) (.cons (.var 2) .nil)))) .nil) .nil) ir_at_rank_k4)
def ir_at_rank_k6 : Srs := (.cons (.ite (.cmp .Eq (.var 3) (.cst (.int 0))) (.cons (.ret (.tup (.cons (.cst (.str "zero")) (.cons (.cst (.int 1)) .nil)))) .nil) .nil) ir_at_rank_k5)
def ir_at_rank_k7 : Srs := (.cons (.par 2 3 (.ite (.cmp .GtE (.var 1) (.cst (.int 0))) (.cst (.int 1)) (.neg (.cst (.int 1)))) (.blt .abs (.cons (.var 1) .nil))) ir_at_rank_k6)
def ir_at_rank_k8 : Srs := (.cons (.ite (.or (.not (.call 0 (.cons (.var 1) .nil))) (.cmp .Gt (.blt .abs (.cons (.var 1) .nil)) (.bin .Add (.call 33 (.cons (.var 0) .nil)) (.cst (.int 1))))) (.cons (.rse 1) .nil) .nil) ir_at_rank_k7)
def ir_at_rank : Srs := (.cons (.drp (.call 28 (.cons (.var 0) .nil))) ir_at_rank_k8)
def ir_next_up : Srs := (.cons (.drp (.call 38 (.cons (.var 0) (.cons (.var 1) .nil)))) (.cons (.ite (.cmp .In (.var 1) (.tup (.cons (.tup (.cons (.cst (.str "nan")) .nil)) (.cons (.tup (.cons (.cst (.str "inf")) (.cons (.cst (.int 1)) .nil))) .nil)))) (.cons (.ret (.var 1)) .nil) .nil) (.cons (.set 2 (.bin .Add (.call 40 (.cons (.var 0) (.cons (.var 1) .nil))) (.cst (.int 1)))) (.cons (.ret (.ite (.cmp .Eq (.var 2) (.cst (.int 0))) (.tup (.cons (.cst (.str "zero")) (.cons (.neg (.cst (.int 1))) .nil))) (.call 41 (.cons (.var 0) (.cons (.var 2) .nil))))) .nil))))
def ir_is_finite : Srs := (.cons (.ret (.cmp .In (.idx (.var 0) (.cst (.int 0))) (.tup (.cons (.cst (.str "num")) (.cons (.cst (.str "zero")) .nil))))) .nil)
def ir_told_oracle_of : Srs := (.cons (.set 3 (.call 7 (.cons (.var 2) (.cons (.call 19 (.cons (.var 1) (.cons (.neg (.var 0)) .nil))) .nil)))) (.cons (.set 4 (.call 16 (.cons (.var 3) .nil))) (.cons (.set 5 (.bin .Mult (.cst (.int 2)) (.bin .Sub (.idx (.var 3) (.cst (.int 0))) (.bin .Mult (.var 4) (.idx (.var 3) (.cst (.int 1))))))) (.cons (.ite (.cmp .Eq (.var 5) (.cst (.int 0))) (.cons (.ret (.tup (.cons (.var 4) (.cons (.cst (.int 0)) .nil)))) .nil) .nil) (.cons (.ret (.tup (.cons (.var 4) (.cons (.ite (.cmp .Lt (.var 5) (.idx (.var 3) (.cst (.int 1)))) (.cst (.int 1)) (.ite (.cmp .Eq (.var 5) (.idx (.var 3) (.cst (.int 1)))) (.cst (.int 2)) (.cst (.int 3)))) .nil)))) .nil)))))
def ir_goes_up : Srs := (.cons (.ite (.cmp .Eq (.var 3) (.cst (.int 0))) (.cons (.ret (.cst (.bl false))) .nil) .nil) (.cons (.ite (.cmp .Eq (.var 0) (.cst (.str "even"))) (.cons (.ret (.or (.cmp .Eq (.var 3) (.cst (.int 3))) (.and (.cmp .Eq (.var 3) (.cst (.int 2))) (.cmp .Eq (.bin .Mod (.var 2) (.cst (.int 2))) (.cst (.int 1)))))) .nil) .nil) (.cons (.ite (.cmp .Eq (.var 0) (.cst (.str "away"))) (.cons (.ret (.cmp .In (.var 3) (.tup (.cons (.cst (.int 2)) (.cons (.cst (.int 3)) .nil))))) .nil) .nil) (.cons (.ite (.cmp .Eq (.var 0) (.cst (.str "odd"))) (.cons (.ret (.cmp .Eq (.bin .Mod (.var 2) (.cst (.int 2))) (.cst (.int 0)))) .nil) .nil) (.cons (.ret (.or (.and (.cmp .Eq (.var 0) (.cst (.str "up"))) (.cmp .Eq (.var 1) (.cst (.int 1)))) (.and (.cmp .Eq (.var 0) (.cst (.str "down"))) (.cmp .Eq (.var 1) (.neg (.cst (.int 1))))))) .nil)))))
def ir_beyond : Srs := (.cons (.ite (.or (.cmp .In (.var 1) (.tup (.cons (.cst (.str "even")) (.cons (.cst (.str "away")) .nil)))) (.or (.and (.cmp .Eq (.var 1) (.cst (.str "up"))) (.cmp .Eq (.var 2) (.cst (.int 1)))) (.and (.cmp .Eq (.var 1) (.cst (.str "down"))) (.cmp .Eq (.var 2) (.neg (.cst (.int 1))))))) (.cons (.ret (.tup (.cons (.cst (.str "inf")) (.cons (.var 2) .nil)))) .nil) .nil) (.cons (.ret (.tup (.cons (.cst (.str "num")) (.cons (.var 2) (.cons (.bin .Sub (.call 32 (.cons (.var 0) .nil)) (.cst (.int 1))) (.cons (.idx (.var 0) (.cst (.int 3))) .nil)))))) .nil))
def ir_put_k1 : Srs := (.cons (.ret (.tup (.cons (.tup (.cons (.cst (.str "num")) (.cons (.var 2) (.cons (.var 7) (.cons (.var 6) .nil))))) (.cons (.var 9) .nil)))) .nil)
def ir_put_k2 : Srs := (.cons (.set 9 (.ite (.cmp .Eq (.var 8) (.cst (.int 0))) (.tup .nil) (.ite (.cmp .Lt (.var 5) (.idx (.var 0) (.cst (.int 1)))) (.tup (.cons (.cst (.str "inexact")) (.cons (.cst (.str "under")) .nil))) (.tup (.cons (.cst (.str "inexact")) .nil))))) ir_put_k1)
def ir_put_k3 : Srs := (.cons (.ite (.cmp .Eq (.var 7) (.cst (.int 0))) (.cons (.ret (.tup (.cons (.tup (.cons (.cst (.str "zero")) (.cons (.var 2) .nil))) (.cons (.tup (.cons (.cst (.str "inexact")) (.cons (.cst (.str "under")) .nil))) .nil)))) .nil) .nil) ir_put_k2)
def ir_put_k4 : Srs := (.cons (.ite (.cmp .Gt (.var 6) (.idx (.var 0) (.cst (.int 3)))) (.cons (.ret (.tup (.cons (.call 47 (.cons (.var 0) (.cons (.var 1) (.cons (.var 2) .nil)))) (.cons (.tup (.cons (.cst (.str "inexact")) (.cons (.cst (.str "over")) .nil))) .nil)))) .nil) .nil) ir_put_k3)
def ir_put_k5 : Srs := (.cons (.ite (.cmp .Eq (.var 7) (.call 32 (.cons (.var 0) .nil))) (.cons (.par 7 6 (.call 31 (.cons (.var 0) .nil)) (.bin .Add (.var 6) (.cst (.int 1)))) .nil) .nil) ir_put_k4)
def ir_put_k6 : Srs := (.cons (.ite (.call 46 (.cons (.var 1) (.cons (.var 2) (.cons (.var 7) (.cons (.var 8) .nil))))) (.cons (.aug 7 .Add (.cst (.int 1))) .nil) .nil) ir_put_k5)
def ir_put_k7 : Srs := (.cons (.asg (.tup (.cons (.nm 7) (.cons (.nm 8) .nil))) (.calv 3 (.cons (.var 6) .nil))) ir_put_k6)
def ir_put_k8 : Srs := (.cons (.set 6 (.bin .Add (.idx (.var 0) (.cst (.int 2))) (.blt .max (.cons (.cst (.int 0)) (.cons (.bin .Sub (.var 5) (.idx (.var 0) (.cst (.int 1)))) .nil))))) ir_put_k7)
def ir_put_k9 : Srs := (.cons (.ite (.and (.not (.idx (.var 0) (.cst (.int 4)))) (.cmp .Lt (.var 5) (.idx (.var 0) (.cst (.int 1))))) (.cons (.ret (.call 48 (.cons (.var 0) (.cons (.var 1) (.cons (.var 2) (.cons (.var 4) .nil)))))) .nil) .nil) ir_put_k8)
def ir_put_k10 : Srs := (.cons (.set 5 (.call 21 (.cons (.idx (.var 4) (.cst (.int 0))) (.cons (.idx (.var 0) (.cst (.int 0))) .nil)))) ir_put_k9)
def ir_put : Srs := (.cons (.set 4 (.calv 3 (.cons (.idx (.var 0) (.cst (.int 2))) .nil))) ir_put_k10)
def ir_put_low_k1 : Srs := (.cons (.ret (.tup (.cons (.ite (.var 8) (.tup (.cons (.cst (.str "num")) (.cons (.var 2) (.cons (.call 31 (.cons (.var 0) .nil)) (.cons (.idx (.var 0) (.cst (.int 2))) .nil))))) (.tup (.cons (.cst (.str "zero")) (.cons (.var 2) .nil)))) (.cons (.tup (.cons (.cst (.str "inexact")) (.cons (.cst (.str "under")) .nil))) .nil)))) .nil)
def ir_put_low_k2 : Srs := (.cons (.ite (.cmp .Eq (.var 1) (.cst (.str "even"))) (.cons (.set 8 (.cmp .Gt (.var 7) (.cst (.int 0)))) .nil) (.cons (.ite (.cmp .Eq (.var 1) (.cst (.str "away"))) (.cons (.set 8 (.cmp .GtE (.var 7) (.cst (.int 0)))) .nil) (.cons (.set 8 (.or (.cmp .Eq (.var 1) (.cst (.str "odd"))) (.or (.and (.cmp .Eq (.var 1) (.cst (.str "up"))) (.cmp .Eq (.var 2) (.cst (.int 1)))) (.and (.cmp .Eq (.var 1) (.cst (.str "down"))) (.cmp .Eq (.var 2) (.neg (.cst (.int 1)))))))) .nil)) .nil)) ir_put_low_k1)
def ir_put_low_k3 : Srs := (.cons (.ite (.cmp .Eq (.var 6) (.neg (.cst (.int 1)))) (.cons (.set 7 (.ite (.cmp .Eq (.var 5) (.cst (.int 2))) (.cst (.int 0)) (.ite (.cmp .Eq (.var 5) (.cst (.int 3))) (.cst (.int 1)) (.neg (.cst (.int 1)))))) .nil) .nil) ir_put_low_k2)
def ir_put_low_k4 : Srs := (.cons (.set 7 (.ite (.cmp .Lt (.var 6) (.cst (.int 0))) (.neg (.cst (.int 1))) (.ite (.or (.cmp .Gt (.var 6) (.cst (.int 0))) (.cmp .NotEq (.var 5) (.cst (.int 0)))) (.cst (.int 1)) (.cst (.int 0))))) ir_put_low_k3)
def ir_put_low_k5 : Srs := (.cons (.set 6 (.bin .Sub (.bin .Mult (.cst (.int 2)) (.var 4)) (.call 31 (.cons (.var 0) .nil)))) ir_put_low_k4)
def ir_put_low : Srs := (.cons (.asg (.tup (.cons (.nm 4) (.cons (.nm 5) .nil))) (.var 3)) ir_put_low_k5)
def ir_rounded : Srs := (.cons (.drp (.call 28 (.cons (.var 0) .nil))) (.cons (.drp (.call 30 (.cons (.var 1) .nil))) (.cons (.ite (.cmp .Eq (.idx (.var 2) (.cst (.int 0))) (.cst (.int 0))) (.cons (.ret (.tup (.cons (.tup (.cons (.cst (.str "zero")) (.cons (.var 3) .nil))) (.cons (.tup .nil) .nil)))) .nil) .nil) (.cons (.set 4 (.ite (.cmp .Gt (.idx (.var 2) (.cst (.int 0))) (.cst (.int 0))) (.cst (.int 1)) (.neg (.cst (.int 1))))) (.cons (.ret (.call 49 (.cons (.var 0) (.cons (.var 1) (.cons (.var 4) (.cons (.call 44 (.cons (.idx (.var 0) (.cst (.int 0))) (.cons (.tup (.cons (.blt .abs (.cons (.idx (.var 2) (.cst (.int 0))) .nil)) (.cons (.idx (.var 2) (.cst (.int 1))) .nil))) .nil))) .nil)))))) .nil)))))
def ir_neighbours : Srs := (.cons (.set 2 (.idx (.call 51 (.cons (.var 0) (.cons (.cst (.str "down")) (.cons (.var 1) .nil)))) (.cst (.int 0)))) (.cons (.set 3 (.ite (.and (.cmp .In (.idx (.var 2) (.cst (.int 0))) (.tup (.cons (.cst (.str "num")) (.cons (.cst (.str "zero")) .nil)))) (.cmp .Eq (.call 39 (.cons (.var 0) (.cons (.var 2) .nil))) (.var 1))) (.var 2) (.call 42 (.cons (.var 0) (.cons (.var 2) .nil))))) (.cons (.ret (.tup (.cons (.var 2) (.cons (.var 3) .nil)))) .nil)))
def ir_is_tie_k1 : Srs := (.cons (.ret (.cmp .Eq (.var 6) (.var 1))) .nil)
def ir_is_tie_k2 : Srs := (.cons (.set 6 (.call 7 (.cons (.tup (.cons (.bin .Add (.bin .Mult (.idx (.var 4) (.cst (.int 0))) (.idx (.var 5) (.cst (.int 1)))) (.bin .Mult (.idx (.var 5) (.cst (.int 0))) (.idx (.var 4) (.cst (.int 1))))) (.cons (.bin .Mult (.idx (.var 4) (.cst (.int 1))) (.idx (.var 5) (.cst (.int 1)))) .nil))) (.cons (.tup (.cons (.cst (.int 1)) (.cons (.cst (.int 2)) .nil))) .nil)))) ir_is_tie_k1)
def ir_is_tie_k3 : Srs := (.cons (.par 4 5 (.call 39 (.cons (.var 0) (.cons (.var 2) .nil))) (.call 39 (.cons (.var 0) (.cons (.var 3) .nil)))) ir_is_tie_k2)
def ir_is_tie_k4 : Srs := (.cons (.ite (.or (.cmp .Eq (.var 2) (.var 3)) (.cmp .In (.cst (.str "inf")) (.tup (.cons (.idx (.var 2) (.cst (.int 0))) (.cons (.idx (.var 3) (.cst (.int 0))) .nil))))) (.cons (.ret (.cst (.bl false))) .nil) .nil) ir_is_tie_k3)
def ir_is_tie : Srs := (.cons (.asg (.tup (.cons (.nm 2) (.cons (.nm 3) .nil))) (.call 52 (.cons (.var 0) (.cons (.var 1) .nil)))) ir_is_tie_k4)
def ir_look_at_b1 : Srs := (.cons (.drp (.call 38 (.cons (.var 0) (.cons (.var 3) .nil)))) .nil)
def ir_look_at : Srs := (.cons (.drp (.call 30 (.cons (.var 1) .nil))) (.cons (.for_ (.nm 3) (.val (.var 2)) ir_look_at_b1) .nil))
def ir_turned_into : Srs := (.cons (.drp (.call 54 (.cons (.var 0) (.cons (.var 2) (.cons (.tup (.cons (.var 3) .nil)) .nil))))) (.cons (.ite (.not (.call 43 (.cons (.var 3) .nil))) (.cons (.ret (.tup (.cons (.var 3) (.cons (.tup .nil) .nil)))) .nil) .nil) (.cons (.ret (.call 50 (.cons (.var 1) (.cons (.var 2) (.cons (.call 39 (.cons (.var 0) (.cons (.var 3) .nil))) (.cons (.idx (.var 3) (.cst (.int 1))) .nil)))))) .nil)))
def ir_twice : Srs := (.cons (.set 4 (.idx (.call 51 (.cons (.var 1) (.cons (.var 2) (.cons (.var 3) .nil)))) (.cst (.int 0)))) (.cons (.ret (.call 55 (.cons (.var 1) (.cons (.var 0) (.cons (.var 2) (.cons (.var 4) .nil)))))) .nil))
def ir_is_slip : Srs := (.cons (.ret (.cmp .NotEq (.idx (.call 56 (.cons (.var 0) (.cons (.var 1) (.cons (.var 2) (.cons (.var 3) .nil))))) (.cst (.int 0))) (.idx (.call 51 (.cons (.var 0) (.cons (.var 2) (.cons (.var 3) .nil)))) (.cst (.int 0))))) .nil)
def ir_slips_at : Srs := (.cons (.set 3 (.idx (.call 51 (.cons (.var 1) (.cons (.cst (.str "even")) (.cons (.var 2) .nil)))) (.cst (.int 0)))) (.cons (.ite (.or (.not (.call 43 (.cons (.var 3) .nil))) (.cmp .Eq (.idx (.var 3) (.cst (.int 0))) (.cst (.str "zero")))) (.cons (.ret (.cst (.bl false))) .nil) .nil) (.cons (.set 4 (.call 39 (.cons (.var 1) (.cons (.var 3) .nil)))) (.cons (.ret (.and (.cmp .NotEq (.var 4) (.var 2)) (.call 53 (.cons (.var 0) (.cons (.var 4) .nil))))) .nil))))
def ir_by_odd : Srs := (.cons (.ret (.call 55 (.cons (.var 1) (.cons (.var 0) (.cons (.var 2) (.cons (.idx (.call 51 (.cons (.var 1) (.cons (.cst (.str "odd")) (.cons (.var 3) .nil)))) (.cst (.int 0))) .nil)))))) .nil)
def ir_odd_is_safe : Srs := (.cons (.drp (.call 28 (.cons (.var 0) .nil))) (.cons (.drp (.call 28 (.cons (.var 1) .nil))) (.cons (.ite (.or (.cmp .NotEq (.idx (.var 0) (.cst (.int 0))) (.idx (.var 1) (.cst (.int 0)))) (.or (.cmp .Eq (.bin .Mod (.idx (.var 0) (.cst (.int 0))) (.cst (.int 2))) (.cst (.int 1))) (.or (.not (.call 36 (.cons (.var 0) (.cons (.var 1) .nil)))) (.or (.not (.idx (.var 0) (.cst (.int 4)))) (.not (.idx (.var 1) (.cst (.int 4)))))))) (.cons (.ret (.cst (.bl false))) .nil) .nil) (.cons (.ret (.and (.cmp .GtE (.idx (.var 1) (.cst (.int 1))) (.bin .Add (.idx (.var 0) (.cst (.int 1))) (.cst (.int 2)))) (.and (.cmp .LtE (.idx (.var 1) (.cst (.int 2))) (.bin .Sub (.idx (.var 0) (.cst (.int 2))) (.cst (.int 2)))) (.cmp .Gt (.bin .Add (.idx (.var 1) (.cst (.int 3))) (.idx (.var 1) (.cst (.int 1)))) (.bin .Add (.bin .Add (.idx (.var 0) (.cst (.int 3))) (.idx (.var 0) (.cst (.int 1)))) (.cst (.int 1))))))) .nil))))
def ir_law_raise_b1 : Srs := (.cons (.set 2 (.bin .Mult (.var 2) (.var 0))) .nil)
def ir_law_raise : Srs := (.cons (.set 2 (.cst (.int 1))) (.cons (.for_ (.nm 3) (.rng1 (.var 1)) ir_law_raise_b1) (.cons (.ret (.var 2)) .nil)))
def ir_law_format : Srs := (.cons (.set 1 (.idx (.lst (.cons (.cst (.int 2)) (.cons (.cst (.int 2)) (.cons (.cst (.int 2)) (.cons (.cst (.int 3)) (.cons (.cst (.int 10)) (.cons (.cst (.int 16)) (.cons (.cst (.int 5)) .nil)))))))) (.call 23 (.cons (.var 0) (.cons (.cst (.int 7)) .nil))))) (.cons (.set 2 (.bin .Sub (.call 23 (.cons (.var 0) (.cons (.cst (.int 6)) .nil))) (.cst (.int 4)))) (.cons (.ret (.tup (.cons (.var 1) (.cons (.bin .Add (.cst (.int 1)) (.call 23 (.cons (.var 0) (.cons (.cst (.int 4)) .nil)))) (.cons (.var 2) (.cons (.bin .Add (.var 2) (.call 23 (.cons (.var 0) (.cons (.cst (.int 5)) .nil)))) (.cons (.cmp .Gt (.call 23 (.cons (.var 0) (.cons (.cst (.int 3)) .nil))) (.cst (.int 0))) .nil))))))) .nil)))
def ir_law_mode : Srs := (.cons (.ret (.idx (.lst (.cons (.cst (.str "even")) (.cons (.cst (.str "away")) (.cons (.cst (.str "up")) (.cons (.cst (.str "down")) (.cons (.cst (.str "zero")) (.cons (.cst (.str "odd")) .nil))))))) (.call 23 (.cons (.var 0) (.cons (.cst (.int 6)) .nil))))) .nil)
def ir_law_goes : Srs := (.cons (.ite (.cmp .Eq (.var 3) (.cst (.int 0))) (.cons (.ret (.cst (.bl false))) .nil) .nil) (.cons (.ite (.cmp .Eq (.var 0) (.cst (.str "even"))) (.cons (.ret (.or (.cmp .Gt (.var 3) (.var 4)) (.and (.cmp .Eq (.var 3) (.var 4)) (.cmp .Eq (.bin .Mod (.blt .int (.cons (.var 2) .nil)) (.cst (.int 2))) (.cst (.int 1)))))) .nil) .nil) (.cons (.ite (.cmp .Eq (.var 0) (.cst (.str "away"))) (.cons (.ret (.cmp .GtE (.var 3) (.var 4))) .nil) .nil) (.cons (.ite (.cmp .Eq (.var 0) (.cst (.str "odd"))) (.cons (.ret (.cmp .Eq (.bin .Mod (.blt .int (.cons (.var 2) .nil)) (.cst (.int 2))) (.cst (.int 0)))) .nil) .nil) (.cons (.ret (.cmp .Eq (.var 0) (.ite (.cmp .Eq (.var 1) (.cst (.int 1))) (.cst (.str "up")) (.cst (.str "down"))))) .nil)))))
def ir_law_below_k1 : Srs := (.cons (.ret (.tup (.cons (.ite (.var 7) (.tup (.cons (.cst (.str "num")) (.cons (.var 2) (.cons (.var 5) (.cons (.idx (.var 0) (.cst (.int 2))) .nil))))) (.tup (.cons (.cst (.str "zero")) (.cons (.var 2) .nil)))) (.cons (.tup (.cons (.cst (.str "inexact")) (.cons (.cst (.str "under")) .nil))) .nil)))) .nil)
def ir_law_below_k2 : Srs := (.cons (.ite (.cmp .Eq (.var 1) (.cst (.str "even"))) (.cons (.set 7 (.cmp .Gt (.var 6) (.cst (.int 0)))) .nil) (.cons (.ite (.cmp .Eq (.var 1) (.cst (.str "away"))) (.cons (.set 7 (.cmp .GtE (.var 6) (.cst (.int 0)))) .nil) (.cons (.set 7 (.or (.cmp .Eq (.var 1) (.cst (.str "odd"))) (.cmp .Eq (.var 1) (.ite (.cmp .Eq (.var 2) (.cst (.int 1))) (.cst (.str "up")) (.cst (.str "down")))))) .nil)) .nil)) ir_law_below_k1)
def ir_law_below : Srs := (.cons (.set 6 (.bin .Sub (.bin .Mult (.cst (.int 2)) (.var 3)) (.bin .Mult (.var 5) (.var 4)))) ir_law_below_k2)
def ir_law_round_c1 : Ir := (.cmp .GtE (.var 15) (.bin .Mult (.var 12) (.var 16)))
def ir_law_round_b2 : Srs := (.cons (.par 16 14 (.bin .Mult (.var 16) (.var 5)) (.bin .Add (.var 14) (.cst (.int 1)))) .nil)
def ir_law_round_k3 : Srs := (.cons (.ret (.tup (.cons (.tup (.cons (.cst (.str "num")) (.cons (.var 10) (.cons (.bin .Sub (.var 12) (.cst (.int 1))) (.cons (.var 8) .nil))))) (.cons (.tup (.cons (.cst (.str "inexact")) (.cons (.cst (.str "over")) .nil))) .nil)))) .nil)
def ir_law_round_k4 : Srs := (.cons (.ret (.tup (.cons (.ite (.cmp .Gt (.var 17) (.cst (.int 0))) (.tup (.cons (.cst (.str "num")) (.cons (.var 10) (.cons (.var 17) (.cons (.var 14) .nil))))) (.tup (.cons (.cst (.str "zero")) (.cons (.var 10) .nil)))) (.cons (.var 20) .nil)))) .nil)
def ir_law_round_k5 : Srs := (.cons (.set 20 (.ite (.cmp .Eq (.var 18) (.cst (.int 0))) (.tup .nil) (.ite (.var 19) (.tup (.cons (.cst (.str "inexact")) (.cons (.cst (.str "under")) .nil))) (.tup (.cons (.cst (.str "inexact")) .nil))))) ir_law_round_k4)
def ir_law_round_k6 : Srs := (.cons (.ite (.cmp .Gt (.var 14) (.var 8)) (.cons (.ite (.or (.cmp .In (.var 1) (.lst (.cons (.cst (.str "even")) (.cons (.cst (.str "away")) .nil)))) (.cmp .Eq (.var 1) (.ite (.cmp .Eq (.var 10) (.cst (.int 1))) (.cst (.str "up")) (.cst (.str "down"))))) (.cons (.ret (.tup (.cons (.tup (.cons (.cst (.str "inf")) (.cons (.var 10) .nil))) (.cons (.tup (.cons (.cst (.str "inexact")) (.cons (.cst (.str "over")) .nil))) .nil)))) .nil) .nil) ir_law_round_k3) .nil) ir_law_round_k5)
def ir_law_round_k7 : Srs := (.cons (.ite (.cmp .Eq (.var 17) (.var 12)) (.cons (.par 17 14 (.var 13) (.bin .Add (.var 14) (.cst (.int 1)))) .nil) .nil) ir_law_round_k6)
def ir_law_round_k8 : Srs := (.cons (.ite (.call 64 (.cons (.var 1) (.cons (.var 10) (.cons (.var 17) (.cons (.var 18) (.cons (.var 16) .nil)))))) (.cons (.set 17 (.bin .Add (.var 17) (.cst (.int 1)))) .nil) .nil) ir_law_round_k7)
def ir_law_round_k9 : Srs := (.cons (.ite (.and (.var 19) (.not (.var 9))) (.cons (.ret (.call 65 (.cons (.var 0) (.cons (.var 1) (.cons (.var 10) (.cons (.var 15) (.cons (.var 16) (.cons (.var 13) .nil)))))))) .nil) .nil) ir_law_round_k8)
def ir_law_round_k10 : Srs := (.cons (.set 19 (.cmp .Lt (.var 17) (.var 13))) ir_law_round_k9)
def ir_law_round_k11 : Srs := (.cons (.set 18 (.bin .Mult (.cst (.int 2)) (.bin .Sub (.var 15) (.bin .Mult (.var 17) (.var 16))))) ir_law_round_k10)
def ir_law_round_k12 : Srs := (.cons (.set 17 (.blt .int (.cons (.bin .FloorDiv (.var 15) (.var 16)) .nil))) ir_law_round_k11)
def ir_law_round_k13 : Srs := (.cons (.whl ir_law_round_c1 ir_law_round_b2) ir_law_round_k12)
def ir_law_round_k14 : Srs := (.cons (.par 15 16 (.bin .Mult (.var 11) (.call 61 (.cons (.var 5) (.cons (.blt .max (.cons (.cst (.int 0)) (.cons (.neg (.var 7)) .nil))) .nil)))) (.bin .Mult (.var 3) (.call 61 (.cons (.var 5) (.cons (.blt .max (.cons (.cst (.int 0)) (.cons (.var 7) .nil))) .nil))))) ir_law_round_k13)
def ir_law_round_k15 : Srs := (.cons (.par3 12 13 14 (.call 61 (.cons (.var 5) (.cons (.var 6) .nil))) (.call 61 (.cons (.var 5) (.cons (.bin .Sub (.var 6) (.cst (.int 1))) .nil))) (.var 7)) ir_law_round_k14)
def ir_law_round_k16 : Srs := (.cons (.par 10 11 (.ite (.cmp .Gt (.var 2) (.cst (.int 0))) (.cst (.int 1)) (.neg (.cst (.int 1)))) (.blt .abs (.cons (.var 2) .nil))) ir_law_round_k15)
def ir_law_round_k17 : Srs := (.cons (.ite (.cmp .Eq (.var 2) (.cst (.int 0))) (.cons (.ret (.tup (.cons (.tup (.cons (.cst (.str "zero")) (.cons (.var 4) .nil))) (.cons (.tup .nil) .nil)))) .nil) .nil) ir_law_round_k16)
def ir_law_round : Srs := (.cons (.asg (.tup (.cons (.nm 5) (.cons (.nm 6) (.cons (.nm 7) (.cons (.nm 8) (.cons (.nm 9) .nil)))))) (.var 0)) ir_law_round_k17)
def ir_law_exact : Srs := (.cons (.ite (.cmp .Eq (.idx (.var 1) (.cst (.int 0))) (.cst (.str "zero"))) (.cons (.ret (.tup (.cons (.cst (.int 0)) (.cons (.cst (.int 1)) .nil)))) .nil) .nil) (.cons (.set 2 (.idx (.var 1) (.cst (.int 3)))) (.cons (.ret (.tup (.cons (.bin .Mult (.bin .Mult (.idx (.var 1) (.cst (.int 1))) (.idx (.var 1) (.cst (.int 2)))) (.call 61 (.cons (.idx (.var 0) (.cst (.int 0))) (.cons (.blt .max (.cons (.cst (.int 0)) (.cons (.var 2) .nil))) .nil)))) (.cons (.call 61 (.cons (.idx (.var 0) (.cst (.int 0))) (.cons (.blt .max (.cons (.cst (.int 0)) (.cons (.neg (.var 2)) .nil))) .nil))) .nil)))) .nil)))
def ir_law_number_k1 : Srs := (.cons (.ret (.tup (.cons (.cst (.str "num")) (.cons (.idx (.lst (.cons (.cst (.int 1)) (.cons (.neg (.cst (.int 1))) .nil))) (.call 23 (.cons (.var 0) (.cons (.cst (.int 2)) .nil)))) (.cons (.var 9) (.cons (.var 8) .nil)))))) .nil)
def ir_law_number_k2 : Srs := (.cons (.ite (.and (.var 6) (.and (.cmp .Gt (.var 7) (.cst (.int 1))) (.cmp .Eq (.call 23 (.cons (.var 0) (.cons (.cst (.int 4)) .nil))) (.cst (.int 0))))) (.cons (.par 9 8 (.bin .Add (.cst (.int 1)) (.call 23 (.cons (.var 0) (.cons (.bin .Sub (.var 7) (.cst (.int 1))) .nil)))) (.var 4)) .nil) .nil) ir_law_number_k1)
def ir_law_number_k3 : Srs := (.cons (.set 9 (.bin .Add (.var 7) (.call 23 (.cons (.var 0) (.cons (.bin .Sub (.bin .Mult (.var 7) (.var 2)) (.var 7)) .nil))))) ir_law_number_k2)
def ir_law_number_k4 : Srs := (.cons (.set 8 (.bin .Add (.var 4) (.call 23 (.cons (.var 0) (.cons (.bin .Add (.bin .Sub (.var 5) (.var 4)) (.cst (.int 1))) .nil))))) ir_law_number_k3)
def ir_law_number_k5 : Srs := (.cons (.set 7 (.call 61 (.cons (.var 2) (.cons (.bin .Sub (.var 3) (.cst (.int 1))) .nil)))) ir_law_number_k4)
def ir_law_number : Srs := (.cons (.asg (.tup (.cons (.nm 2) (.cons (.nm 3) (.cons (.nm 4) (.cons (.nm 5) (.cons (.nm 6) .nil)))))) (.var 1)) ir_law_number_k5)
def ir_law_few : Srs := (.cons (.asg (.tup (.cons (.nm 1) (.cons (.nm 2) (.cons (.nm 3) (.cons (.nm 4) (.cons (.nm 5) .nil)))))) (.call 62 (.cons (.var 0) .nil))) (.cons (.ret (.tup (.cons (.var 1) (.cons (.blt .min (.cons (.var 2) (.cons (.dgv [(2, 4), (3, 3), (5, 2), (10, 2), (16, 1)] 1) .nil))) (.cons (.var 3) (.cons (.var 4) (.cons (.var 5) .nil))))))) .nil))
def ir_law_into : Srs := (.cons (.ite (.cmp .NotEq (.idx (.var 3) (.cst (.int 0))) (.cst (.str "num"))) (.cons (.ret (.tup (.cons (.var 3) (.cons (.tup .nil) .nil)))) .nil) .nil) (.cons (.asg (.tup (.cons (.nm 4) (.cons (.nm 5) .nil))) (.call 67 (.cons (.var 2) (.cons (.var 3) .nil)))) (.cons (.ret (.call 66 (.cons (.var 0) (.cons (.var 1) (.cons (.var 4) (.cons (.var 5) (.cons (.cst (.int 1)) .nil))))))) .nil)))
def ir_law_fraction_c1 : Ir := (.and (.cmp .Eq (.bin .Mod (.var 1) (.var 3)) (.cst (.int 0))) (.and (.cmp .Eq (.bin .Mod (.var 2) (.var 3)) (.cst (.int 0))) (.cmp .NotEq (.var 1) (.cst (.int 0)))))
def ir_law_fraction_b2 : Srs := (.cons (.par 1 2 (.bin .FloorDiv (.var 1) (.var 3)) (.bin .FloorDiv (.var 2) (.var 3))) .nil)
def ir_law_fraction_b3 : Srs := (.cons (.whl ir_law_fraction_c1 ir_law_fraction_b2) .nil)
def ir_law_fraction_c4 : Ir := (.cmp .NotEq (.var 5) (.cst (.int 0)))
def ir_law_fraction_b5 : Srs := (.cons (.par 4 5 (.var 5) (.bin .Mod (.var 4) (.var 5))) .nil)
def ir_law_fraction_k6 : Srs := (.cons (.ret (.tup (.cons (.bin .FloorDiv (.var 1) (.var 4)) (.cons (.bin .FloorDiv (.var 2) (.var 4)) .nil)))) .nil)
def ir_law_fraction_k7 : Srs := (.cons (.whl ir_law_fraction_c4 ir_law_fraction_b5) ir_law_fraction_k6)
def ir_law_fraction_k8 : Srs := (.cons (.par 4 5 (.blt .abs (.cons (.var 1) .nil)) (.var 2)) ir_law_fraction_k7)
def ir_law_fraction_k9 : Srs := (.cons (.ite (.cmp .Eq (.var 1) (.cst (.int 0))) (.cons (.ret (.tup (.cons (.cst (.int 0)) (.cons (.cst (.int 1)) .nil)))) .nil) .nil) ir_law_fraction_k8)
def ir_law_fraction_k10 : Srs := (.cons (.for_ (.nm 3) (.rng2 (.cst (.int 2)) (.cst (.int 40))) ir_law_fraction_b3) ir_law_fraction_k9)
def ir_law_fraction_k11 : Srs := (.cons (.set 1 (.ite (.cmp .Eq (.call 23 (.cons (.var 0) (.cons (.cst (.int 2)) .nil))) (.cst (.int 0))) (.var 1) (.bin .Sub (.cst (.int 0)) (.var 1)))) ir_law_fraction_k10)
def ir_law_fraction_k12 : Srs := (.cons (.set 2 (.idx (.lst (.cons (.cst (.int 1)) (.cons (.cst (.int 2)) (.cons (.cst (.int 4)) (.cons (.cst (.int 3)) (.cons (.cst (.int 7)) (.cons (.cst (.int 16)) (.cons (.cst (.int 100)) (.cons (.cst (.int 1000)) (.cons (.bin .Add (.cst (.int 1)) (.call 23 (.cons (.var 0) (.cons (.cst (.int 300)) .nil)))) .nil)))))))))) (.call 23 (.cons (.var 0) (.cons (.cst (.int 9)) .nil))))) ir_law_fraction_k11)
def ir_law_fraction : Srs := (.cons (.set 1 (.idx (.lst (.cons (.call 23 (.cons (.var 0) (.cons (.cst (.int 40)) .nil))) (.cons (.call 23 (.cons (.var 0) (.cons (.cst (.int 5000)) .nil))) (.cons (.call 23 (.cons (.var 0) (.cons (.cst (.int 3)) .nil))) .nil)))) (.call 23 (.cons (.var 0) (.cons (.cst (.int 3)) .nil))))) ir_law_fraction_k12)
def ir_law_pick : Srs := (.cons (.ret (.idx (.var 1) (.call 23 (.cons (.var 0) (.cons (.blt .len (.cons (.var 1) .nil)) .nil))))) .nil)
def ir_law_wide : Srs := (.cons (.asg (.tup (.cons (.nm 2) (.cons (.nm 3) (.cons (.nm 4) (.cons (.nm 5) (.cons (.nm 6) .nil)))))) (.var 1)) (.cons (.ite (.cmp .Eq (.call 23 (.cons (.var 0) (.cons (.cst (.int 4)) .nil))) (.cst (.int 0))) (.cons (.ret (.call 62 (.cons (.var 0) .nil))) .nil) .nil) (.cons (.set 7 (.call 75 (.cons (.var 0) (.cons (.lst (.cons (.cst (.int 0)) (.cons (.cst (.int 1)) (.cons (.cst (.int 2)) (.cons (.cst (.int 3)) (.cons (.bin .Add (.var 3) (.cst (.int 2))) (.cons (.bin .Add (.var 3) (.cst (.int 3))) .nil))))))) .nil)))) (.cons (.set 8 (.bin .Sub (.var 4) (.call 75 (.cons (.var 0) (.cons (.lst (.cons (.cst (.int 0)) (.cons (.cst (.int 1)) (.cons (.cst (.int 2)) (.cons (.cst (.int 3)) (.cons (.var 7) (.cons (.bin .Add (.var 7) (.cst (.int 20))) .nil))))))) .nil))))) (.cons (.ret (.tup (.cons (.var 2) (.cons (.bin .Add (.var 3) (.var 7)) (.cons (.var 8) (.cons (.bin .Add (.var 5) (.call 75 (.cons (.var 0) (.cons (.lst (.cons (.cst (.int 0)) (.cons (.cst (.int 2)) (.cons (.cst (.int 9)) (.cons (.cst (.int 30)) .nil))))) .nil)))) (.cons (.ite (.cmp .Gt (.call 23 (.cons (.var 0) (.cons (.cst (.int 3)) .nil))) (.cst (.int 0))) (.var 6) (.not (.var 6))) .nil))))))) .nil)))))
def ir_law_numbers_b1 : Srs := (.cons (.drp (.app (.var 7) (.call 67 (.cons (.var 0) (.cons (.tup (.cons (.cst (.str "num")) (.cons (.cst (.int 1)) (.cons (.var 9) (.cons (.var 8) .nil))))) .nil))))) .nil)
def ir_law_numbers_b2 : Srs := (.cons (.for_ (.nm 9) (.rng2 (.ite (.and (.var 5) (.cmp .Eq (.var 8) (.var 3))) (.cst (.int 1)) (.var 6)) (.bin .Mult (.var 6) (.var 1))) ir_law_numbers_b1) .nil)
def ir_law_numbers_k3 : Srs := (.cons (.ret (.var 7)) .nil)
def ir_law_numbers_k4 : Srs := (.cons (.for_ (.nm 8) (.rng2 (.var 3) (.bin .Add (.var 4) (.cst (.int 1)))) ir_law_numbers_b2) ir_law_numbers_k3)
def ir_law_numbers_k5 : Srs := (.cons (.par 6 7 (.call 61 (.cons (.var 1) (.cons (.bin .Sub (.var 2) (.cst (.int 1))) .nil))) (.mls .nil)) ir_law_numbers_k4)
def ir_law_numbers : Srs := (.cons (.asg (.tup (.cons (.nm 1) (.cons (.nm 2) (.cons (.nm 3) (.cons (.nm 4) (.cons (.nm 5) .nil)))))) (.var 0)) ir_law_numbers_k5)
def ir_law_part_t1 : Ir := (.cmp .NotEq (.idx (.call 66 (.cons (.var 1) (.cons (.cst (.str "zero")) (.cons (.var 2) (.cons (.var 3) (.cons (.cst (.int 1)) .nil)))))) (.cst (.int 1))) (.tup .nil))
def ir_law_part_e2 : Ir := (.cst (.int 1))
def ir_law_part : Srs := (.cons (.ret (.cmp .Eq (.blt .len (.cons (.lc (.val (.call 77 (.cons (.var 0) .nil))) (.tup (.cons (.nm 2) (.cons (.nm 3) .nil))) ir_law_part_t1 ir_law_part_e2 [2, 3]) .nil)) (.cst (.int 0)))) .nil)
def ir_law_tie_k1 : Srs := (.cons (.ret (.cmp .Eq (.bin .Mult (.bin .Add (.bin .Mult (.idx (.var 5) (.cst (.int 0))) (.idx (.var 6) (.cst (.int 1)))) (.bin .Mult (.idx (.var 6) (.cst (.int 0))) (.idx (.var 5) (.cst (.int 1))))) (.var 2)) (.bin .Mult (.bin .Mult (.bin .Mult (.cst (.int 2)) (.var 1)) (.idx (.var 5) (.cst (.int 1)))) (.idx (.var 6) (.cst (.int 1)))))) .nil)
def ir_law_tie_k2 : Srs := (.cons (.par 5 6 (.call 67 (.cons (.var 0) (.cons (.idx (.var 3) (.cst (.int 0))) .nil))) (.call 67 (.cons (.var 0) (.cons (.idx (.var 4) (.cst (.int 0))) .nil)))) ir_law_tie_k1)
def ir_law_tie_k3 : Srs := (.cons (.ite (.or (.cmp .In (.cst (.str "over")) (.idx (.var 3) (.cst (.int 1)))) (.cmp .In (.cst (.str "over")) (.idx (.var 4) (.cst (.int 1))))) (.cons (.ret (.cst (.bl false))) .nil) .nil) ir_law_tie_k2)
def ir_law_tie_k4 : Srs := (.cons (.ite (.or (.cmp .Eq (.idx (.var 3) (.cst (.int 1))) (.tup .nil)) (.or (.cmp .Eq (.idx (.idx (.var 3) (.cst (.int 0))) (.cst (.int 0))) (.cst (.str "inf"))) (.or (.cmp .Eq (.idx (.idx (.var 4) (.cst (.int 0))) (.cst (.int 0))) (.cst (.str "inf"))) (.cmp .Eq (.idx (.var 3) (.cst (.int 0))) (.idx (.var 4) (.cst (.int 0))))))) (.cons (.ret (.cst (.bl false))) .nil) .nil) ir_law_tie_k3)
def ir_law_tie : Srs := (.cons (.par 3 4 (.call 66 (.cons (.var 0) (.cons (.cst (.str "down")) (.cons (.var 1) (.cons (.var 2) (.cons (.cst (.int 1)) .nil)))))) (.call 66 (.cons (.var 0) (.cons (.cst (.str "up")) (.cons (.var 1) (.cons (.var 2) (.cons (.cst (.int 1)) .nil))))))) ir_law_tie_k4)
def ir_law_k61_c1 : Ir := (.cmp .NotEq (.var 12) (.cst (.int 0)))
def ir_law_k61_b2 : Srs := (.cons (.par 11 12 (.var 12) (.bin .Mod (.var 11) (.var 12))) .nil)
def ir_law_k61_k3 : Srs := (.cons (.par 6 7 (.bin .FloorDiv (.var 6) (.var 11)) (.bin .FloorDiv (.var 7) (.var 11))) .nil)
def ir_law_k61_k4 : Srs := (.cons (.whl ir_law_k61_c1 ir_law_k61_b2) ir_law_k61_k3)
def ir_law_k61_k5 : Srs := (.cons (.par 11 12 (.blt .abs (.cons (.var 6) .nil)) (.var 7)) ir_law_k61_k4)
def ir_law_k61_k6 : Srs := (.cons (.par 6 7 (.bin .Add (.bin .Mult (.var 6) (.cst (.int 100000))) (.var 10)) (.bin .Mult (.var 7) (.cst (.int 100000)))) ir_law_k61_k5)
def ir_law_k61_k7 : Srs := (.cons (.set 10 (.call 75 (.cons (.var 1) (.cons (.lst (.cons (.cst (.int 0)) (.cons (.cst (.int 1)) (.cons (.neg (.cst (.int 1))) .nil)))) .nil)))) ir_law_k61_k6)
def ir_law_k61_k8 : Srs := (.cons (.par 6 7 (.bin .Add (.bin .Mult (.bin .Mult (.cst (.int 2)) (.idx (.var 8) (.cst (.int 0)))) (.idx (.var 9) (.cst (.int 1)))) (.bin .Mult (.idx (.var 9) (.cst (.int 0))) (.idx (.var 8) (.cst (.int 1))))) (.bin .Mult (.bin .Mult (.cst (.int 2)) (.idx (.var 8) (.cst (.int 1)))) (.idx (.var 9) (.cst (.int 1))))) ir_law_k61_k7)
def ir_law_k61_k9 : Srs := (.cons (.set 9 (.call 67 (.cons (.var 3) (.cons (.tup (.cons (.cst (.str "num")) (.cons (.cst (.int 1)) (.cons (.cst (.int 1)) (.cons (.idx (.var 3) (.cst (.int 2))) .nil))))) .nil)))) ir_law_k61_k8)
def ir_law_k61_k10 : Srs := (.cons (.ite (.and (.var 20) (.cmp .NotEq (.idx (.call 59 (.cons (.var 3) (.cons (.var 4) (.cons (.var 5) (.cons (.tup (.cons (.var 6) (.cons (.var 7) .nil))) .nil))))) (.cst (.int 0))) (.idx (.var 14) (.cst (.int 0))))) (.cons (.ret (.cst (.bl false))) .nil) .nil) .nil)
def ir_law_k61_k11 : Srs := (.cons (.ite (.and (.cmp .Eq (.idx (.var 3) (.cst (.int 0))) (.idx (.var 4) (.cst (.int 0)))) (.not (.call 24 (.cons (.call 36 (.cons (.var 3) (.cons (.var 4) .nil))) (.cons (.var 19) .nil))))) (.cons (.ret (.cst (.bl false))) .nil) .nil) ir_law_k61_k10)
def ir_law_k61_k12 : Srs := (.cons (.ite (.not (.call 24 (.cons (.call 60 (.cons (.var 3) (.cons (.var 4) .nil))) (.cons (.var 20) .nil)))) (.cons (.ret (.cst (.bl false))) .nil) .nil) ir_law_k61_k11)
def ir_law_k61_k13 : Srs := (.cons (.set 20 (.and (.var 20) (.cmp .Gt (.bin .Add (.idx (.var 4) (.cst (.int 3))) (.idx (.var 4) (.cst (.int 1)))) (.bin .Add (.bin .Add (.idx (.var 3) (.cst (.int 3))) (.idx (.var 3) (.cst (.int 1)))) (.cst (.int 1)))))) ir_law_k61_k12)
def ir_law_k61_k14 : Srs := (.cons (.set 20 (.and (.cmp .Eq (.idx (.var 3) (.cst (.int 0))) (.idx (.var 4) (.cst (.int 0)))) (.and (.cmp .Eq (.bin .Mod (.idx (.var 3) (.cst (.int 0))) (.cst (.int 2))) (.cst (.int 0))) (.and (.var 19) (.and (.idx (.var 3) (.cst (.int 4))) (.and (.idx (.var 4) (.cst (.int 4))) (.and (.cmp .GtE (.idx (.var 4) (.cst (.int 1))) (.bin .Add (.idx (.var 3) (.cst (.int 1))) (.cst (.int 2)))) (.cmp .LtE (.idx (.var 4) (.cst (.int 2))) (.bin .Sub (.idx (.var 3) (.cst (.int 2))) (.cst (.int 2))))))))))) ir_law_k61_k13)
def ir_law_k61_k15 : Srs := (.cons (.set 19 (.call 78 (.cons (.var 3) (.cons (.var 4) .nil)))) ir_law_k61_k14)
def ir_law_k61_k16 : Srs := (.cons (.ite (.not (.call 24 (.cons (.call 59 (.cons (.var 3) (.cons (.var 4) (.cons (.var 5) (.cons (.tup (.cons (.var 6) (.cons (.var 7) .nil))) .nil))))) (.cons (.call 73 (.cons (.var 3) (.cons (.var 5) (.cons (.var 4) (.cons (.var 18) .nil))))) .nil)))) (.cons (.ret (.cst (.bl false))) .nil) .nil) ir_law_k61_k15)
def ir_law_k61_k17 : Srs := (.cons (.set 18 (.idx (.call 66 (.cons (.var 4) (.cons (.cst (.str "odd")) (.cons (.var 6) (.cons (.var 7) (.cons (.cst (.int 1)) .nil)))))) (.cst (.int 0)))) ir_law_k61_k16)
def ir_law_k61_k18 : Srs := (.cons (.ite (.not (.call 24 (.cons (.call 58 (.cons (.var 3) (.cons (.var 4) (.cons (.tup (.cons (.var 6) (.cons (.var 7) .nil))) .nil)))) (.cons (.var 17) .nil)))) (.cons (.ret (.cst (.bl false))) .nil) .nil) ir_law_k61_k17)
def ir_law_k61_k19 : Srs := (.cons (.set 17 (.and (.cmp .Eq (.idx (.idx (.var 15) (.cst (.int 0))) (.cst (.int 0))) (.cst (.str "num"))) (.and (.cmp .NotEq (.bin .Mult (.idx (.var 16) (.cst (.int 0))) (.var 7)) (.bin .Mult (.var 6) (.idx (.var 16) (.cst (.int 1))))) (.call 79 (.cons (.var 3) (.cons (.idx (.var 16) (.cst (.int 0))) (.cons (.idx (.var 16) (.cst (.int 1))) .nil))))))) ir_law_k61_k18)
def ir_law_k61_k20 : Srs := (.cons (.set 16 (.ite (.cmp .Eq (.idx (.idx (.var 15) (.cst (.int 0))) (.cst (.int 0))) (.cst (.str "num"))) (.call 67 (.cons (.var 4) (.cons (.idx (.var 15) (.cst (.int 0))) .nil))) (.tup (.cons (.cst (.int 0)) (.cons (.cst (.int 1)) .nil))))) ir_law_k61_k19)
def ir_law_k61_k21 : Srs := (.cons (.set 15 (.call 66 (.cons (.var 4) (.cons (.cst (.str "even")) (.cons (.var 6) (.cons (.var 7) (.cons (.cst (.int 1)) .nil))))))) ir_law_k61_k20)
def ir_law_k61_k22 : Srs := (.cons (.ite (.or (.not (.call 24 (.cons (.call 57 (.cons (.var 3) (.cons (.var 4) (.cons (.var 5) (.cons (.tup (.cons (.var 6) (.cons (.var 7) .nil))) .nil))))) (.cons (.cmp .NotEq (.idx (.var 13) (.cst (.int 0))) (.idx (.var 14) (.cst (.int 0)))) .nil)))) (.not (.call 24 (.cons (.call 53 (.cons (.var 3) (.cons (.tup (.cons (.var 6) (.cons (.var 7) .nil))) .nil))) (.cons (.call 79 (.cons (.var 3) (.cons (.var 6) (.cons (.var 7) .nil)))) .nil))))) (.cons (.ret (.cst (.bl false))) .nil) .nil) ir_law_k61_k21)
def ir_law_k61_k23 : Srs := (.cons (.ite (.or (.not (.call 24 (.cons (.call 56 (.cons (.var 3) (.cons (.var 4) (.cons (.var 5) (.cons (.tup (.cons (.var 6) (.cons (.var 7) .nil))) .nil))))) (.cons (.var 13) .nil)))) (.not (.call 24 (.cons (.call 51 (.cons (.var 3) (.cons (.var 5) (.cons (.tup (.cons (.var 6) (.cons (.var 7) .nil))) .nil)))) (.cons (.var 14) .nil))))) (.cons (.ret (.cst (.bl false))) .nil) .nil) ir_law_k61_k22)
def ir_law_k61_k24 : Srs := (.cons (.par 13 14 (.call 73 (.cons (.var 3) (.cons (.var 5) (.cons (.var 4) (.cons (.var 11) .nil))))) (.call 66 (.cons (.var 3) (.cons (.var 5) (.cons (.var 6) (.cons (.var 7) (.cons (.cst (.int 1)) .nil))))))) ir_law_k61_k23)
def ir_law_k61_k25 : Srs := (.cons (.set 11 (.idx (.call 66 (.cons (.var 4) (.cons (.var 5) (.cons (.var 6) (.cons (.var 7) (.cons (.cst (.int 1)) .nil)))))) (.cst (.int 0)))) ir_law_k61_k24)
def ir_law_k61_k26 : Srs := (.cons (.ite (.cmp .Eq (.call 23 (.cons (.var 1) (.cons (.cst (.int 3)) .nil))) (.cst (.int 0))) (.cons (.set 8 (.call 67 (.cons (.var 3) (.cons (.call 68 (.cons (.var 1) (.cons (.var 3) .nil))) .nil)))) ir_law_k61_k9) .nil) ir_law_k61_k25)
def ir_law_k61_k27 : Srs := (.cons (.asg (.tup (.cons (.nm 6) (.cons (.nm 7) .nil))) (.call 74 (.cons (.var 1) .nil))) ir_law_k61_k26)
def ir_law_k61_k28 : Srs := (.cons (.par 4 5 (.call 76 (.cons (.var 1) (.cons (.var 3) .nil))) (.call 63 (.cons (.var 1) .nil))) ir_law_k61_k27)
def ir_law_k61_b29 : Srs := (.cons (.set 3 (.call 72 (.cons (.var 1) .nil))) ir_law_k61_k28)
def ir_law_k61_k30 : Srs := (.cons (.ret (.cst (.bl true))) .nil)
def ir_law_k61_k31 : Srs := (.cons (.for_ (.nm 2) (.rng1 (.cst (.int 8))) ir_law_k61_b29) ir_law_k61_k30)
def ir_law_k61 : Srs := (.cons (.set 1 (.call 22 (.cons (.var 0) .nil))) ir_law_k61_k31)
end U
namespace U
open PySem PySem.Spec PyProof.Rows L2 DL
def ir_compared_k1 : Srs := (.cons (.ret (.cst .non)) .nil)
def ir_compared_k2 : Srs := (.cons (.drp (.call 38 (.cons (.var 0) (.cons (.var 2) .nil)))) ir_compared_k1)
def ir_compared_k3 : Srs := (.cons (.ret (.bin .Sub (.blt .int (.cons (.cmp .Gt (.var 3) (.var 4)) .nil)) (.blt .int (.cons (.cmp .Lt (.var 3) (.var 4)) .nil)))) .nil)
def ir_compared_k4 : Srs := (.cons (.par 3 4 (.call 40 (.cons (.var 0) (.cons (.var 1) .nil))) (.call 40 (.cons (.var 0) (.cons (.var 2) .nil)))) ir_compared_k3)
def ir_compared : Srs := (.cons (.ite (.or (.cmp .Eq (.var 1) (.tup (.cons (.cst (.str "nan")) .nil))) (.cmp .Eq (.var 2) (.tup (.cons (.cst (.str "nan")) .nil)))) (.cons (.drp (.call 38 (.cons (.var 0) (.cons (.var 1) .nil)))) ir_compared_k2) .nil) ir_compared_k4)
def ir_ends : Srs := (.cons (.ret (.tup (.cons (.call 14 (.cons (.var 0) .nil)) (.cons (.call 15 (.cons (.var 0) .nil)) .nil)))) .nil)
def ir_sum_range : Srs := (.cons (.ret (.tup (.cons (.call 5 (.cons (.idx (.var 0) (.cst (.int 0))) (.cons (.idx (.var 1) (.cst (.int 0))) .nil))) (.cons (.call 5 (.cons (.idx (.var 0) (.cst (.int 1))) (.cons (.idx (.var 1) (.cst (.int 1))) .nil))) .nil)))) .nil)
def ir_turned_range : Srs := (.cons (.ret (.tup (.cons (.tup (.cons (.neg (.idx (.idx (.var 0) (.cst (.int 1))) (.cst (.int 0)))) (.cons (.idx (.idx (.var 0) (.cst (.int 1))) (.cst (.int 1))) .nil))) (.cons (.tup (.cons (.neg (.idx (.idx (.var 0) (.cst (.int 0))) (.cst (.int 0)))) (.cons (.idx (.idx (.var 0) (.cst (.int 0))) (.cst (.int 1))) .nil))) .nil)))) .nil)
def ir_product_range_e1 : Ir := (.call 7 (.cons (.var 2) (.cons (.var 3) .nil)))
def ir_product_range : Srs := (.cons (.ret (.call 81 (.cons (.lc2 (.val (.var 0)) (.nm 2) (.val (.var 1)) (.nm 3) ir_product_range_e1 [2, 3] [3]) .nil))) .nil)
def ir_has_nought : Srs := (.cons (.ret (.chn .LtE .LtE (.idx (.idx (.var 0) (.cst (.int 0))) (.cst (.int 0))) (.cst (.int 0)) (.idx (.idx (.var 0) (.cst (.int 1))) (.cst (.int 0))))) .nil)
def ir_quotient_range_e1 : Ir := (.call 8 (.cons (.var 2) (.cons (.var 3) .nil)))
def ir_quotient_range : Srs := (.cons (.ite (.call 85 (.cons (.var 1) .nil)) (.cons (.rse 0) .nil) .nil) (.cons (.ret (.call 81 (.cons (.lc2 (.val (.var 0)) (.nm 2) (.val (.var 1)) (.nm 3) ir_quotient_range_e1 [2, 3] [3]) .nil))) .nil))
def ir_is_interval_e1 : Ir := (.call 37 (.cons (.var 0) (.cons (.var 2) .nil)))
def ir_is_interval_k2 : Srs := (.cons (.ret (.cmp .LtE (.call 80 (.cons (.var 0) (.cons (.idx (.var 1) (.cst (.int 0))) (.cons (.idx (.var 1) (.cst (.int 1))) .nil)))) (.cst (.int 0)))) .nil)
def ir_is_interval_k3 : Srs := (.cons (.ite (.or (.cmp .In (.tup (.cons (.cst (.str "nan")) .nil)) (.var 1)) (.or (.cmp .Eq (.idx (.var 1) (.cst (.int 0))) (.tup (.cons (.cst (.str "inf")) (.cons (.cst (.int 1)) .nil)))) (.cmp .Eq (.idx (.var 1) (.cst (.int 1))) (.tup (.cons (.cst (.str "inf")) (.cons (.neg (.cst (.int 1))) .nil)))))) (.cons (.ret (.cst (.bl false))) .nil) .nil) ir_is_interval_k2)
def ir_is_interval_k4 : Srs := (.cons (.ite (.or (.not (.blt .isinst (.cons (.var 1) (.cons (.cst (.ty "tuple")) .nil)))) (.or (.cmp .NotEq (.blt .len (.cons (.var 1) .nil)) (.cst (.int 2))) (.not (.blt .all (.cons (.lc (.val (.var 1)) (.nm 2) (.cst (.bl true)) ir_is_interval_e1 [2]) .nil))))) (.cons (.ret (.cst (.bl false))) .nil) .nil) ir_is_interval_k3)
def ir_is_interval_k5 : Srs := (.cons (.ite (.cmp .Eq (.var 1) (.tup .nil)) (.cons (.ret (.blt .isinst (.cons (.var 1) (.cons (.cst (.ty "tuple")) .nil)))) .nil) .nil) ir_is_interval_k4)
def ir_is_interval : Srs := (.cons (.drp (.call 28 (.cons (.var 0) .nil))) ir_is_interval_k5)
def ir_look_at_interval : Srs := (.cons (.ite (.not (.call 87 (.cons (.var 0) (.cons (.var 1) .nil)))) (.cons (.rse 0) .nil) .nil) .nil)
def ir_whole_line : Srs := (.cons (.ret (.tup (.cons (.tup (.cons (.cst (.str "inf")) (.cons (.neg (.cst (.int 1))) .nil))) (.cons (.tup (.cons (.cst (.str "inf")) (.cons (.cst (.int 1)) .nil))) .nil)))) .nil)
def ir_around : Srs := (.cons (.ite (.call 12 (.cons (.var 2) (.cons (.var 1) .nil))) (.cons (.rse 0) .nil) .nil) (.cons (.ret (.tup (.cons (.idx (.call 51 (.cons (.var 0) (.cons (.cst (.str "down")) (.cons (.var 1) .nil)))) (.cst (.int 0))) (.cons (.idx (.call 51 (.cons (.var 0) (.cons (.cst (.str "up")) (.cons (.var 2) .nil)))) (.cst (.int 0))) .nil)))) .nil))
def ir_has_k1 : Srs := (.cons (.ret (.or (.not (.call 43 (.cons (.var 4) .nil))) (.call 13 (.cons (.var 2) (.cons (.call 39 (.cons (.var 0) (.cons (.var 4) .nil))) .nil))))) .nil)
def ir_has_k2 : Srs := (.cons (.ite (.and (.call 43 (.cons (.var 3) .nil)) (.call 12 (.cons (.var 2) (.cons (.call 39 (.cons (.var 0) (.cons (.var 3) .nil))) .nil)))) (.cons (.ret (.cst (.bl false))) .nil) .nil) ir_has_k1)
def ir_has_k3 : Srs := (.cons (.asg (.tup (.cons (.nm 3) (.cons (.nm 4) .nil))) (.var 1)) ir_has_k2)
def ir_has_k4 : Srs := (.cons (.ite (.cmp .Eq (.var 1) (.tup .nil)) (.cons (.ret (.cst (.bl false))) .nil) .nil) ir_has_k3)
def ir_has : Srs := (.cons (.drp (.call 88 (.cons (.var 0) (.cons (.var 1) .nil)))) ir_has_k4)
def ir_range_in : Srs := (.cons (.ite (.or (.cmp .Eq (.var 1) (.tup .nil)) (.or (.not (.call 43 (.cons (.idx (.var 1) (.cst (.int 0))) .nil))) (.not (.call 43 (.cons (.idx (.var 1) (.cst (.int 1))) .nil))))) (.cons (.ret (.cst .non)) .nil) .nil) (.cons (.ret (.tup (.cons (.call 39 (.cons (.var 0) (.cons (.idx (.var 1) (.cst (.int 0))) .nil))) (.cons (.call 39 (.cons (.var 0) (.cons (.idx (.var 1) (.cst (.int 1))) .nil))) .nil)))) .nil))
def ir_met_k1 : Srs := (.cons (.ret (.ite (.cmp .LtE (.call 80 (.cons (.var 0) (.cons (.var 3) (.cons (.var 4) .nil)))) (.cst (.int 0))) (.tup (.cons (.var 3) (.cons (.var 4) .nil))) (.tup .nil))) .nil)
def ir_met_k2 : Srs := (.cons (.set 4 (.ite (.cmp .LtE (.call 80 (.cons (.var 0) (.cons (.idx (.var 1) (.cst (.int 1))) (.cons (.idx (.var 2) (.cst (.int 1))) .nil)))) (.cst (.int 0))) (.idx (.var 1) (.cst (.int 1))) (.idx (.var 2) (.cst (.int 1))))) ir_met_k1)
def ir_met_k3 : Srs := (.cons (.set 3 (.ite (.cmp .GtE (.call 80 (.cons (.var 0) (.cons (.idx (.var 1) (.cst (.int 0))) (.cons (.idx (.var 2) (.cst (.int 0))) .nil)))) (.cst (.int 0))) (.idx (.var 1) (.cst (.int 0))) (.idx (.var 2) (.cst (.int 0))))) ir_met_k2)
def ir_met_k4 : Srs := (.cons (.ite (.cmp .In (.tup .nil) (.tup (.cons (.var 1) (.cons (.var 2) .nil)))) (.cons (.ret (.tup .nil)) .nil) .nil) ir_met_k3)
def ir_met_k5 : Srs := (.cons (.drp (.call 88 (.cons (.var 0) (.cons (.var 2) .nil)))) ir_met_k4)
def ir_met : Srs := (.cons (.drp (.call 88 (.cons (.var 0) (.cons (.var 1) .nil)))) ir_met_k5)
def ir_hull_k1 : Srs := (.cons (.ret (.tup (.cons (.var 3) (.cons (.var 4) .nil)))) .nil)
def ir_hull_k2 : Srs := (.cons (.set 4 (.ite (.cmp .GtE (.call 80 (.cons (.var 0) (.cons (.idx (.var 1) (.cst (.int 1))) (.cons (.idx (.var 2) (.cst (.int 1))) .nil)))) (.cst (.int 0))) (.idx (.var 1) (.cst (.int 1))) (.idx (.var 2) (.cst (.int 1))))) ir_hull_k1)
def ir_hull_k3 : Srs := (.cons (.set 3 (.ite (.cmp .LtE (.call 80 (.cons (.var 0) (.cons (.idx (.var 1) (.cst (.int 0))) (.cons (.idx (.var 2) (.cst (.int 0))) .nil)))) (.cst (.int 0))) (.idx (.var 1) (.cst (.int 0))) (.idx (.var 2) (.cst (.int 0))))) ir_hull_k2)
def ir_hull_k4 : Srs := (.cons (.ite (.cmp .In (.tup .nil) (.tup (.cons (.var 1) (.cons (.var 2) .nil)))) (.cons (.ret (.ite (.cmp .Eq (.var 1) (.tup .nil)) (.var 2) (.var 1))) .nil) .nil) ir_hull_k3)
def ir_hull_k5 : Srs := (.cons (.drp (.call 88 (.cons (.var 0) (.cons (.var 2) .nil)))) ir_hull_k4)
def ir_hull : Srs := (.cons (.drp (.call 88 (.cons (.var 0) (.cons (.var 1) .nil)))) ir_hull_k5)
def ir_is_inside_k1 : Srs := (.cons (.ret (.and (.cmp .NotEq (.var 2) (.tup .nil)) (.and (.cmp .LtE (.call 80 (.cons (.var 0) (.cons (.idx (.var 2) (.cst (.int 0))) (.cons (.idx (.var 1) (.cst (.int 0))) .nil)))) (.cst (.int 0))) (.cmp .LtE (.call 80 (.cons (.var 0) (.cons (.idx (.var 1) (.cst (.int 1))) (.cons (.idx (.var 2) (.cst (.int 1))) .nil)))) (.cst (.int 0)))))) .nil)
def ir_is_inside_k2 : Srs := (.cons (.ite (.cmp .Eq (.var 1) (.tup .nil)) (.cons (.ret (.cst (.bl true))) .nil) .nil) ir_is_inside_k1)
def ir_is_inside_k3 : Srs := (.cons (.drp (.call 88 (.cons (.var 0) (.cons (.var 2) .nil)))) ir_is_inside_k2)
def ir_is_inside : Srs := (.cons (.drp (.call 88 (.cons (.var 0) (.cons (.var 1) .nil)))) ir_is_inside_k3)
def ir_made_k1 : Srs := (.cons (.ret (.call 90 (.cons (.var 0) (.cons (.idx (.var 6) (.cst (.int 0))) (.cons (.idx (.var 6) (.cst (.int 1))) .nil))))) .nil)
def ir_made_k2 : Srs := (.cons (.set 6 (.call 96 (.cons (.var 1) (.cons (.var 4) (.cons (.var 5) .nil))))) ir_made_k1)
def ir_made_k3 : Srs := (.cons (.ite (.and (.cmp .Eq (.var 1) (.cst (.str "div"))) (.chn .LtE .LtE (.idx (.idx (.var 5) (.cst (.int 0))) (.cst (.int 0))) (.cst (.int 0)) (.idx (.idx (.var 5) (.cst (.int 1))) (.cst (.int 0))))) (.cons (.ret (.call 89 .nil)) .nil) .nil) ir_made_k2)
def ir_made_k4 : Srs := (.cons (.ite (.or (.cmp .Is (.var 4) (.cst .non)) (.cmp .Is (.var 5) (.cst .non))) (.cons (.ret (.call 89 .nil)) .nil) .nil) ir_made_k3)
def ir_made_k5 : Srs := (.cons (.ite (.and (.cmp .Eq (.var 1) (.cst (.str "div"))) (.and (.cmp .IsNot (.var 5) (.cst .non)) (.and (.cmp .Eq (.idx (.idx (.var 5) (.cst (.int 0))) (.cst (.int 0))) (.cst (.int 0))) (.cmp .Eq (.idx (.idx (.var 5) (.cst (.int 1))) (.cst (.int 0))) (.cst (.int 0)))))) (.cons (.ret (.tup .nil)) .nil) .nil) ir_made_k4)
def ir_made_k6 : Srs := (.cons (.par 4 5 (.call 92 (.cons (.var 0) (.cons (.var 2) .nil))) (.call 92 (.cons (.var 0) (.cons (.var 3) .nil)))) ir_made_k5)
def ir_made_k7 : Srs := (.cons (.ite (.cmp .In (.tup .nil) (.tup (.cons (.var 2) (.cons (.var 3) .nil)))) (.cons (.ret (.tup .nil)) .nil) .nil) ir_made_k6)
def ir_made_k8 : Srs := (.cons (.ite (.cmp .NotIn (.var 1) (.tup (.cons (.cst (.str "add")) (.cons (.cst (.str "sub")) (.cons (.cst (.str "mul")) (.cons (.cst (.str "div")) .nil)))))) (.cons (.rse 0) .nil) .nil) ir_made_k7)
def ir_made_k9 : Srs := (.cons (.drp (.call 88 (.cons (.var 0) (.cons (.var 3) .nil)))) ir_made_k8)
def ir_made : Srs := (.cons (.drp (.call 88 (.cons (.var 0) (.cons (.var 2) .nil)))) ir_made_k9)
def ir_ranged_k1 : Srs := (.cons (.ret (.ite (.cmp .Eq (.var 0) (.cst (.str "mul"))) (.call 84 (.cons (.var 1) (.cons (.var 2) .nil))) (.call 86 (.cons (.var 1) (.cons (.var 2) .nil))))) .nil)
def ir_ranged_k2 : Srs := (.cons (.ite (.cmp .Eq (.var 0) (.cst (.str "sub"))) (.cons (.ret (.call 82 (.cons (.var 1) (.cons (.call 83 (.cons (.var 2) .nil)) .nil)))) .nil) .nil) ir_ranged_k1)
def ir_ranged : Srs := (.cons (.ite (.cmp .Eq (.var 0) (.cst (.str "add"))) (.cons (.ret (.call 82 (.cons (.var 1) (.cons (.var 2) .nil)))) .nil) .nil) ir_ranged_k2)
def ir_law_key_k1 : Srs := (.cons (.ret (.tup (.cons (.cst (.int 0)) (.cons (.var 2) (.cons (.var 3) .nil))))) .nil)
def ir_law_key_k2 : Srs := (.cons (.asg (.tup (.cons (.nm 2) (.cons (.nm 3) .nil))) (.call 67 (.cons (.var 0) (.cons (.var 1) .nil)))) ir_law_key_k1)
def ir_law_key : Srs := (.cons (.ite (.cmp .Eq (.idx (.var 1) (.cst (.int 0))) (.cst (.str "inf"))) (.cons (.ret (.tup (.cons (.idx (.var 1) (.cst (.int 1))) (.cons (.cst (.int 0)) (.cons (.cst (.int 1)) .nil))))) .nil) .nil) ir_law_key_k2)
def ir_law_le_k1 : Srs := (.cons (.ret (.cmp .LtE (.bin .Mult (.idx (.var 3) (.cst (.int 1))) (.idx (.var 4) (.cst (.int 2)))) (.bin .Mult (.idx (.var 4) (.cst (.int 1))) (.idx (.var 3) (.cst (.int 2)))))) .nil)
def ir_law_le_k2 : Srs := (.cons (.ite (.cmp .NotEq (.idx (.var 3) (.cst (.int 0))) (.idx (.var 4) (.cst (.int 0)))) (.cons (.ret (.cmp .Lt (.idx (.var 3) (.cst (.int 0))) (.idx (.var 4) (.cst (.int 0))))) .nil) .nil) ir_law_le_k1)
def ir_law_le : Srs := (.cons (.par 3 4 (.call 98 (.cons (.var 0) (.cons (.var 1) .nil))) (.call 98 (.cons (.var 0) (.cons (.var 2) .nil)))) ir_law_le_k2)
def ir_law_interval_k1 : Srs := (.cons (.ret (.ite (.call 99 (.cons (.var 1) (.cons (.var 3) (.cons (.var 4) .nil)))) (.tup (.cons (.var 3) (.cons (.var 4) .nil))) (.tup (.cons (.var 4) (.cons (.var 3) .nil))))) .nil)
def ir_law_interval_k2 : Srs := (.cons (.ite (.cmp .Eq (.var 2) (.cst (.int 4))) (.cons (.set 4 (.var 3)) .nil) .nil) ir_law_interval_k1)
def ir_law_interval_k3 : Srs := (.cons (.ite (.cmp .Eq (.var 2) (.cst (.int 3))) (.cons (.set 4 (.tup (.cons (.cst (.str "inf")) (.cons (.cst (.int 1)) .nil)))) .nil) .nil) ir_law_interval_k2)
def ir_law_interval_k4 : Srs := (.cons (.ite (.cmp .Eq (.var 2) (.cst (.int 2))) (.cons (.set 3 (.tup (.cons (.cst (.str "inf")) (.cons (.neg (.cst (.int 1))) .nil)))) .nil) .nil) ir_law_interval_k3)
def ir_law_interval_k5 : Srs := (.cons (.ite (.cmp .Eq (.var 2) (.cst (.int 1))) (.cons (.set 3 (.tup (.cons (.cst (.str "zero")) (.cons (.call 75 (.cons (.var 0) (.cons (.lst (.cons (.cst (.int 1)) (.cons (.neg (.cst (.int 1))) .nil))) .nil))) .nil)))) .nil) .nil) ir_law_interval_k4)
def ir_law_interval_k6 : Srs := (.cons (.par 3 4 (.call 68 (.cons (.var 0) (.cons (.var 1) .nil))) (.call 68 (.cons (.var 0) (.cons (.var 1) .nil)))) ir_law_interval_k5)
def ir_law_interval_k7 : Srs := (.cons (.ite (.cmp .Eq (.var 2) (.cst (.int 0))) (.cons (.ret (.tup .nil)) .nil) .nil) ir_law_interval_k6)
def ir_law_interval : Srs := (.cons (.set 2 (.call 23 (.cons (.var 0) (.cons (.cst (.int 8)) .nil)))) ir_law_interval_k7)
def ir_law_ends : Srs := (.cons (.ite (.or (.cmp .Eq (.var 1) (.tup .nil)) (.or (.cmp .Eq (.idx (.idx (.var 1) (.cst (.int 0))) (.cst (.int 0))) (.cst (.str "inf"))) (.cmp .Eq (.idx (.idx (.var 1) (.cst (.int 1))) (.cst (.int 0))) (.cst (.str "inf"))))) (.cons (.ret (.cst .non)) .nil) .nil) (.cons (.ret (.tup (.cons (.call 67 (.cons (.var 0) (.cons (.idx (.var 1) (.cst (.int 0))) .nil))) (.cons (.call 67 (.cons (.var 0) (.cons (.idx (.var 1) (.cst (.int 1))) .nil))) .nil)))) .nil))
def ir_law_around_k1 : Srs := (.cons (.set 3 (.ite (.cmp .Gt (.bin .Mult (.var 4) (.idx (.var 3) (.cst (.int 1)))) (.bin .Mult (.idx (.var 3) (.cst (.int 0))) (.var 5))) (.tup (.cons (.var 4) (.cons (.var 5) .nil))) (.var 3))) .nil)
def ir_law_around_b2 : Srs := (.cons (.set 2 (.ite (.cmp .Lt (.bin .Mult (.var 4) (.idx (.var 2) (.cst (.int 1)))) (.bin .Mult (.idx (.var 2) (.cst (.int 0))) (.var 5))) (.tup (.cons (.var 4) (.cons (.var 5) .nil))) (.var 2))) ir_law_around_k1)
def ir_law_around_k3 : Srs := (.cons (.ret (.tup (.cons (.idx (.call 66 (.cons (.var 0) (.cons (.cst (.str "down")) (.cons (.idx (.var 2) (.cst (.int 0))) (.cons (.idx (.var 2) (.cst (.int 1))) (.cons (.cst (.int 1)) .nil)))))) (.cst (.int 0))) (.cons (.idx (.call 66 (.cons (.var 0) (.cons (.cst (.str "up")) (.cons (.idx (.var 3) (.cst (.int 0))) (.cons (.idx (.var 3) (.cst (.int 1))) (.cons (.cst (.int 1)) .nil)))))) (.cst (.int 0))) .nil)))) .nil)
def ir_law_around_k4 : Srs := (.cons (.for_ (.tup (.cons (.nm 4) (.cons (.nm 5) .nil))) (.val (.var 1)) ir_law_around_b2) ir_law_around_k3)
def ir_law_around : Srs := (.cons (.par 2 3 (.idx (.var 1) (.cst (.int 0))) (.idx (.var 1) (.cst (.int 0)))) ir_law_around_k4)
def ir_law_made_b1 : Srs := (.cons (.ite (.cmp .In (.var 1) (.tup (.cons (.cst (.str "add")) (.cons (.cst (.str "sub")) .nil)))) (.cons (.drp (.app (.var 6) (.tup (.cons (.bin .Add (.bin .Mult (.var 7) (.var 10)) (.bin .Mult (.ite (.cmp .Eq (.var 1) (.cst (.str "add"))) (.var 9) (.bin .Sub (.cst (.int 0)) (.var 9))) (.var 8))) (.cons (.bin .Mult (.var 8) (.var 10)) .nil))))) .nil) (.cons (.ite (.cmp .Eq (.var 1) (.cst (.str "mul"))) (.cons (.drp (.app (.var 6) (.tup (.cons (.bin .Mult (.var 7) (.var 9)) (.cons (.bin .Mult (.var 8) (.var 10)) .nil))))) .nil) (.cons (.drp (.app (.var 6) (.tup (.cons (.bin .Mult (.bin .Mult (.var 7) (.var 10)) (.ite (.cmp .Gt (.var 9) (.cst (.int 0))) (.cst (.int 1)) (.neg (.cst (.int 1))))) (.cons (.bin .Mult (.var 8) (.blt .abs (.cons (.var 9) .nil))) .nil))))) .nil)) .nil)) .nil)
def ir_law_made_b2 : Srs := (.cons (.for_ (.tup (.cons (.nm 9) (.cons (.nm 10) .nil))) (.val (.var 5)) ir_law_made_b1) .nil)
def ir_law_made_k3 : Srs := (.cons (.ret (.call 102 (.cons (.var 0) (.cons (.var 6) .nil)))) .nil)
def ir_law_made_k4 : Srs := (.cons (.for_ (.tup (.cons (.nm 7) (.cons (.nm 8) .nil))) (.val (.var 4)) ir_law_made_b2) ir_law_made_k3)
def ir_law_made_k5 : Srs := (.cons (.set 6 (.mls .nil)) ir_law_made_k4)
def ir_law_made_k6 : Srs := (.cons (.ite (.or (.cmp .Is (.var 4) (.cst .non)) (.or (.cmp .Is (.var 5) (.cst .non)) (.and (.cmp .Eq (.var 1) (.cst (.str "div"))) (.chn .LtE .LtE (.idx (.idx (.var 5) (.cst (.int 0))) (.cst (.int 0))) (.cst (.int 0)) (.idx (.idx (.var 5) (.cst (.int 1))) (.cst (.int 0))))))) (.cons (.ret (.tup (.cons (.tup (.cons (.cst (.str "inf")) (.cons (.neg (.cst (.int 1))) .nil))) (.cons (.tup (.cons (.cst (.str "inf")) (.cons (.cst (.int 1)) .nil))) .nil)))) .nil) .nil) ir_law_made_k5)
def ir_law_made_k7 : Srs := (.cons (.ite (.and (.cmp .Eq (.var 1) (.cst (.str "div"))) (.and (.cmp .IsNot (.var 5) (.cst .non)) (.and (.cmp .Eq (.idx (.idx (.var 5) (.cst (.int 0))) (.cst (.int 0))) (.cst (.int 0))) (.cmp .Eq (.idx (.idx (.var 5) (.cst (.int 1))) (.cst (.int 0))) (.cst (.int 0)))))) (.cons (.ret (.tup .nil)) .nil) .nil) ir_law_made_k6)
def ir_law_made_k8 : Srs := (.cons (.par 4 5 (.call 101 (.cons (.var 0) (.cons (.var 2) .nil))) (.call 101 (.cons (.var 0) (.cons (.var 3) .nil)))) ir_law_made_k7)
def ir_law_made : Srs := (.cons (.ite (.or (.cmp .Eq (.var 2) (.tup .nil)) (.cmp .Eq (.var 3) (.tup .nil))) (.cons (.ret (.tup .nil)) .nil) .nil) ir_law_made_k8)
def ir_law_has_k1 : Srs := (.cons (.ret (.and (.var 6) (.or (.cmp .Eq (.idx (.var 5) (.cst (.int 0))) (.cst (.str "inf"))) (.cmp .LtE (.bin .Mult (.var 2) (.idx (.call 67 (.cons (.var 0) (.cons (.var 5) .nil))) (.cst (.int 1)))) (.bin .Mult (.idx (.call 67 (.cons (.var 0) (.cons (.var 5) .nil))) (.cst (.int 0))) (.var 3)))))) .nil)
def ir_law_has_k2 : Srs := (.cons (.set 6 (.or (.cmp .Eq (.idx (.var 4) (.cst (.int 0))) (.cst (.str "inf"))) (.cmp .LtE (.bin .Mult (.idx (.call 67 (.cons (.var 0) (.cons (.var 4) .nil))) (.cst (.int 0))) (.var 3)) (.bin .Mult (.var 2) (.idx (.call 67 (.cons (.var 0) (.cons (.var 4) .nil))) (.cst (.int 1))))))) ir_law_has_k1)
def ir_law_has_k3 : Srs := (.cons (.asg (.tup (.cons (.nm 4) (.cons (.nm 5) .nil))) (.var 1)) ir_law_has_k2)
def ir_law_has : Srs := (.cons (.ite (.cmp .Eq (.var 1) (.tup .nil)) (.cons (.ret (.cst (.bl false))) .nil) .nil) ir_law_has_k3)
def ir_law_alike_t1 : Ir := (.not (.and (.call 99 (.cons (.var 0) (.cons (.idx (.var 1) (.var 3)) (.cons (.idx (.var 2) (.var 3)) .nil)))) (.call 99 (.cons (.var 0) (.cons (.idx (.var 2) (.var 3)) (.cons (.idx (.var 1) (.var 3)) .nil))))))
def ir_law_alike_e2 : Ir := (.var 3)
def ir_law_alike_k3 : Srs := (.cons (.ret (.and (.blt .isinst (.cons (.var 1) (.cons (.cst (.ty "tuple")) .nil))) (.and (.cmp .Eq (.blt .len (.cons (.var 1) .nil)) (.cst (.int 2))) (.cmp .Eq (.blt .len (.cons (.lc (.rng1 (.cst (.int 2))) (.nm 3) ir_law_alike_t1 ir_law_alike_e2 [3]) .nil)) (.cst (.int 0)))))) .nil)
def ir_law_alike : Srs := (.cons (.ite (.or (.cmp .Eq (.var 1) (.tup .nil)) (.cmp .Eq (.var 2) (.tup .nil))) (.cons (.ret (.cmp .Eq (.var 1) (.var 2))) .nil) .nil) ir_law_alike_k3)
def ir_law_k68_k1 : Srs := (.cons (.set 13 (.and (.call 99 (.cons (.var 3) (.cons (.idx (.var 5) (.cst (.int 0))) (.cons (.idx (.var 4) (.cst (.int 0))) .nil)))) (.call 99 (.cons (.var 3) (.cons (.idx (.var 4) (.cst (.int 1))) (.cons (.idx (.var 5) (.cst (.int 1))) .nil)))))) .nil)
def ir_law_k68_k2 : Srs := (.cons (.set 12 (.tup (.cons (.ite (.call 99 (.cons (.var 3) (.cons (.idx (.var 4) (.cst (.int 0))) (.cons (.idx (.var 5) (.cst (.int 0))) .nil)))) (.idx (.var 4) (.cst (.int 0))) (.idx (.var 5) (.cst (.int 0)))) (.cons (.ite (.call 99 (.cons (.var 3) (.cons (.idx (.var 4) (.cst (.int 1))) (.cons (.idx (.var 5) (.cst (.int 1))) .nil)))) (.idx (.var 5) (.cst (.int 1))) (.idx (.var 4) (.cst (.int 1)))) .nil)))) ir_law_k68_k1)
def ir_law_k68_k3 : Srs := (.cons (.set 11 (.ite (.call 99 (.cons (.var 3) (.cons (.var 14) (.cons (.var 15) .nil)))) (.tup (.cons (.var 14) (.cons (.var 15) .nil))) (.tup .nil))) ir_law_k68_k2)
def ir_law_k68_k4 : Srs := (.cons (.set 15 (.ite (.call 99 (.cons (.var 3) (.cons (.idx (.var 4) (.cst (.int 1))) (.cons (.idx (.var 5) (.cst (.int 1))) .nil)))) (.idx (.var 4) (.cst (.int 1))) (.idx (.var 5) (.cst (.int 1))))) ir_law_k68_k3)
def ir_law_k68_k5 : Srs := (.cons (.ite (.not (.call 104 (.cons (.var 3) (.cons (.var 10) (.cons (.idx (.var 22) (.cst (.int 0))) (.cons (.idx (.var 22) (.cst (.int 1))) .nil)))))) (.cons (.ret (.cst (.bl false))) .nil) .nil) .nil)
def ir_law_k68_k6 : Srs := (.cons (.ite (.cmp .Eq (.var 16) (.cst (.str "div"))) (.cons (.set 22 (.tup (.cons (.bin .Mult (.bin .Mult (.idx (.var 19) (.cst (.int 0))) (.idx (.var 20) (.cst (.int 1)))) (.ite (.cmp .Gt (.idx (.var 20) (.cst (.int 0))) (.cst (.int 0))) (.cst (.int 1)) (.neg (.cst (.int 1))))) (.cons (.bin .Mult (.idx (.var 19) (.cst (.int 1))) (.blt .abs (.cons (.idx (.var 20) (.cst (.int 0))) .nil))) .nil)))) .nil) .nil) ir_law_k68_k5)
def ir_law_k68_k7 : Srs := (.cons (.set 22 (.ite (.cmp .Eq (.var 16) (.cst (.str "add"))) (.tup (.cons (.bin .Add (.bin .Mult (.idx (.var 19) (.cst (.int 0))) (.idx (.var 20) (.cst (.int 1)))) (.bin .Mult (.idx (.var 20) (.cst (.int 0))) (.idx (.var 19) (.cst (.int 1))))) (.cons (.bin .Mult (.idx (.var 19) (.cst (.int 1))) (.idx (.var 20) (.cst (.int 1)))) .nil))) (.ite (.cmp .Eq (.var 16) (.cst (.str "sub"))) (.tup (.cons (.bin .Sub (.bin .Mult (.idx (.var 19) (.cst (.int 0))) (.idx (.var 20) (.cst (.int 1)))) (.bin .Mult (.idx (.var 20) (.cst (.int 0))) (.idx (.var 19) (.cst (.int 1))))) (.cons (.bin .Mult (.idx (.var 19) (.cst (.int 1))) (.idx (.var 20) (.cst (.int 1)))) .nil))) (.tup (.cons (.bin .Mult (.idx (.var 19) (.cst (.int 0))) (.idx (.var 20) (.cst (.int 0)))) (.cons (.bin .Mult (.idx (.var 19) (.cst (.int 1))) (.idx (.var 20) (.cst (.int 1)))) .nil)))))) ir_law_k68_k6)
def ir_law_k68_k8 : Srs := (.cons (.set 19 (.call 75 (.cons (.var 1) (.cons (.lst (.cons (.var 19) (.cons (.var 21) .nil))) .nil)))) ir_law_k68_k7)
def ir_law_k68_k9 : Srs := (.cons (.set 21 (.tup (.cons (.bin .Add (.bin .Mult (.idx (.idx (.var 17) (.cst (.int 0))) (.cst (.int 0))) (.idx (.idx (.var 17) (.cst (.int 1))) (.cst (.int 1)))) (.bin .Mult (.idx (.idx (.var 17) (.cst (.int 1))) (.cst (.int 0))) (.idx (.idx (.var 17) (.cst (.int 0))) (.cst (.int 1))))) (.cons (.bin .Mult (.bin .Mult (.cst (.int 2)) (.idx (.idx (.var 17) (.cst (.int 0))) (.cst (.int 1)))) (.idx (.idx (.var 17) (.cst (.int 1))) (.cst (.int 1)))) .nil)))) ir_law_k68_k8)
def ir_law_k68_k10 : Srs := (.cons (.par 19 20 (.idx (.var 17) (.call 23 (.cons (.var 1) (.cons (.cst (.int 2)) .nil)))) (.idx (.var 18) (.call 23 (.cons (.var 1) (.cons (.cst (.int 2)) .nil))))) ir_law_k68_k9)
def ir_law_k68_k11 : Srs := (.cons (.ite (.and (.cmp .IsNot (.call 101 (.cons (.var 3) (.cons (.var 4) .nil))) (.cst .non)) (.and (.cmp .IsNot (.call 101 (.cons (.var 3) (.cons (.var 5) .nil))) (.cst .non)) (.or (.cmp .NotEq (.var 16) (.cst (.str "div"))) (.not (.call 104 (.cons (.var 3) (.cons (.var 5) (.cons (.cst (.int 0)) (.cons (.cst (.int 1)) .nil))))))))) (.cons (.par 17 18 (.call 101 (.cons (.var 3) (.cons (.var 4) .nil))) (.call 101 (.cons (.var 3) (.cons (.var 5) .nil)))) ir_law_k68_k10) .nil) .nil)
def ir_law_k68_k12 : Srs := (.cons (.ite (.or (.not (.call 105 (.cons (.var 3) (.cons (.var 10) (.cons (.call 103 (.cons (.var 3) (.cons (.var 16) (.cons (.var 4) (.cons (.var 5) .nil))))) .nil))))) (.cmp .IsNot (.call 87 (.cons (.var 3) (.cons (.var 10) .nil))) (.cst (.bl true)))) (.cons (.ret (.cst (.bl false))) .nil) .nil) ir_law_k68_k11)
def ir_law_k68_b13 : Srs := (.cons (.set 10 (.call 97 (.cons (.var 3) (.cons (.var 16) (.cons (.var 4) (.cons (.var 5) .nil)))))) ir_law_k68_k12)
def ir_law_k68_b14 : Srs := (.cons (.ite (.cmp .IsNot (.call 87 (.cons (.var 3) (.cons (.var 23) .nil))) (.cst (.bl false))) (.cons (.ret (.cst (.bl false))) .nil) .nil) .nil)
def ir_law_k68_k15 : Srs := (.cons (.for_ (.nm 23) (.val (.tup (.cons (.cst .non) (.cons (.lst (.cons (.var 14) (.cons (.var 14) .nil))) (.cons (.tup (.cons (.var 14) .nil)) (.cons (.tup (.cons (.tup (.cons (.cst (.str "nan")) .nil)) (.cons (.var 14) .nil))) (.cons (.tup (.cons (.var 14) (.cons (.tup (.cons (.cst (.str "nan")) .nil)) .nil))) (.cons (.tup (.cons (.tup (.cons (.cst (.str "inf")) (.cons (.cst (.int 1)) .nil))) (.cons (.tup (.cons (.cst (.str "inf")) (.cons (.cst (.int 1)) .nil))) .nil))) (.cons (.tup (.cons (.tup (.cons (.cst (.str "inf")) (.cons (.neg (.cst (.int 1))) .nil))) (.cons (.tup (.cons (.cst (.str "inf")) (.cons (.neg (.cst (.int 1))) .nil))) .nil))) (.cons (.tup (.cons (.var 14) (.cons (.var 14) (.cons (.var 14) .nil)))) (.cons (.tup (.cons (.var 14) (.cons (.tup (.cons (.cst (.str "num")) (.cons (.cst (.int 1)) (.cons (.cst (.int 0)) (.cons (.cst (.int 0)) .nil))))) .nil))) .nil))))))))))) ir_law_k68_b14) .nil)
def ir_law_k68_k16 : Srs := (.cons (.set 14 (.call 68 (.cons (.var 1) (.cons (.var 3) .nil)))) ir_law_k68_k15)
def ir_law_k68_k17 : Srs := (.cons (.for_ (.nm 16) (.val (.tup (.cons (.cst (.str "add")) (.cons (.cst (.str "sub")) (.cons (.cst (.str "mul")) (.cons (.cst (.str "div")) .nil)))))) ir_law_k68_b13) ir_law_k68_k16)
def ir_law_k68_k18 : Srs := (.cons (.ite (.or (.not (.call 105 (.cons (.var 3) (.cons (.call 93 (.cons (.var 3) (.cons (.var 4) (.cons (.var 5) .nil)))) (.cons (.var 11) .nil))))) (.or (.not (.call 105 (.cons (.var 3) (.cons (.call 94 (.cons (.var 3) (.cons (.var 4) (.cons (.var 5) .nil)))) (.cons (.var 12) .nil))))) (.not (.call 24 (.cons (.call 95 (.cons (.var 3) (.cons (.var 4) (.cons (.var 5) .nil)))) (.cons (.var 13) .nil)))))) (.cons (.ret (.cst (.bl false))) .nil) .nil) ir_law_k68_k17)
def ir_law_k68_k19 : Srs := (.cons (.ite (.or (.cmp .Eq (.var 4) (.tup .nil)) (.cmp .Eq (.var 5) (.tup .nil))) (.cons (.par3 11 12 13 (.tup .nil) (.ite (.cmp .Eq (.var 4) (.tup .nil)) (.var 5) (.var 4)) (.cmp .Eq (.var 4) (.tup .nil))) .nil) (.cons (.set 14 (.ite (.call 99 (.cons (.var 3) (.cons (.idx (.var 4) (.cst (.int 0))) (.cons (.idx (.var 5) (.cst (.int 0))) .nil)))) (.idx (.var 5) (.cst (.int 0))) (.idx (.var 4) (.cst (.int 0))))) ir_law_k68_k4)) ir_law_k68_k18)
def ir_law_k68_k20 : Srs := (.cons (.ite (.cmp .LtE (.bin .Mult (.var 6) (.var 9)) (.bin .Mult (.var 8) (.var 7))) (.cons (.set 10 (.call 90 (.cons (.var 3) (.cons (.tup (.cons (.var 6) (.cons (.var 7) .nil))) (.cons (.tup (.cons (.var 8) (.cons (.var 9) .nil))) .nil))))) (.cons (.ite (.or (.not (.call 105 (.cons (.var 3) (.cons (.var 10) (.cons (.call 102 (.cons (.var 3) (.cons (.lst (.cons (.tup (.cons (.var 6) (.cons (.var 7) .nil))) (.cons (.tup (.cons (.var 8) (.cons (.var 9) .nil))) .nil))) .nil))) .nil))))) (.or (.cmp .IsNot (.call 87 (.cons (.var 3) (.cons (.var 10) .nil))) (.cst (.bl true))) (.cmp .IsNot (.call 91 (.cons (.var 3) (.cons (.var 10) (.cons (.tup (.cons (.var 6) (.cons (.var 7) .nil))) .nil)))) (.cst (.bl true))))) (.cons (.ret (.cst (.bl false))) .nil) .nil) .nil)) .nil) ir_law_k68_k19)
def ir_law_k68_k21 : Srs := (.cons (.ite (.not (.call 24 (.cons (.call 91 (.cons (.var 3) (.cons (.var 4) (.cons (.tup (.cons (.var 6) (.cons (.var 7) .nil))) .nil)))) (.cons (.call 104 (.cons (.var 3) (.cons (.var 4) (.cons (.var 6) (.cons (.var 7) .nil))))) .nil)))) (.cons (.ret (.cst (.bl false))) .nil) .nil) ir_law_k68_k20)
def ir_law_k68_k22 : Srs := (.cons (.asg (.tup (.cons (.nm 8) (.cons (.nm 9) .nil))) (.call 74 (.cons (.var 1) .nil))) ir_law_k68_k21)
def ir_law_k68_k23 : Srs := (.cons (.asg (.tup (.cons (.nm 6) (.cons (.nm 7) .nil))) (.call 74 (.cons (.var 1) .nil))) ir_law_k68_k22)
def ir_law_k68_k24 : Srs := (.cons (.ite (.or (.cmp .IsNot (.call 87 (.cons (.var 3) (.cons (.var 4) .nil))) (.cst (.bl true))) (.cmp .IsNot (.call 87 (.cons (.var 3) (.cons (.var 5) .nil))) (.cst (.bl true)))) (.cons (.ret (.cst (.bl false))) .nil) .nil) ir_law_k68_k23)
def ir_law_k68_k25 : Srs := (.cons (.par 4 5 (.call 100 (.cons (.var 1) (.cons (.var 3) .nil))) (.call 100 (.cons (.var 1) (.cons (.var 3) .nil)))) ir_law_k68_k24)
def ir_law_k68_b26 : Srs := (.cons (.set 3 (.call 62 (.cons (.var 1) .nil))) ir_law_k68_k25)
def ir_law_k68_b27 : Srs := (.cons (.try1 (.cons (.ite (.cmp .Eq (.var 2) (.cst (.int 0))) (.cons (.drp (.app (.var 24) (.call 90 (.cons (.var 3) (.cons (.tup (.cons (.cst (.int 1)) (.cons (.cst (.int 1)) .nil))) (.cons (.tup (.cons (.cst (.int 0)) (.cons (.cst (.int 1)) .nil))) .nil)))))) .nil) (.cons (.ite (.cmp .Eq (.var 2) (.cst (.int 1))) (.cons (.drp (.app (.var 24) (.call 97 (.cons (.var 3) (.cons (.call 75 (.cons (.var 1) (.cons (.lst (.cons (.cst (.str "rem")) (.cons (.cst (.str "")) (.cons (.cst (.str "fma")) .nil)))) .nil))) (.cons (.tup .nil) (.cons (.tup .nil) .nil))))))) .nil) (.cons (.drp (.app (.var 24) (.ite (.cmp .Eq (.var 2) (.cst (.int 2))) (.call 93 (.cons (.var 3) (.cons (.tup .nil) (.cons (.tup (.cons (.var 14) .nil)) .nil)))) (.call 91 (.cons (.var 3) (.cons (.cst .non) (.cons (.tup (.cons (.cst (.int 0)) (.cons (.cst (.int 1)) .nil))) .nil))))))) .nil)) .nil)) .nil) 0 (.cons (.drp (.app (.var 24) (.cst (.str "plan")))) .nil)) .nil)
def ir_law_k68_k28 : Srs := (.cons (.ret (.cmp .Eq (.var 24) (.bin .Mult (.mls (.cons (.cst (.str "plan")) .nil)) (.cst (.int 4))))) .nil)
def ir_law_k68_k29 : Srs := (.cons (.for_ (.nm 2) (.rng1 (.cst (.int 4))) ir_law_k68_b27) ir_law_k68_k28)
def ir_law_k68_k30 : Srs := (.cons (.set 24 (.mls .nil)) ir_law_k68_k29)
def ir_law_k68_k31 : Srs := (.cons (.ite (.cmp .NotEq (.call 89 .nil) (.tup (.cons (.tup (.cons (.cst (.str "inf")) (.cons (.neg (.cst (.int 1))) .nil))) (.cons (.tup (.cons (.cst (.str "inf")) (.cons (.cst (.int 1)) .nil))) .nil)))) (.cons (.ret (.cst (.bl false))) .nil) .nil) ir_law_k68_k30)
def ir_law_k68_k32 : Srs := (.cons (.for_ (.nm 2) (.rng1 (.cst (.int 6))) ir_law_k68_b26) ir_law_k68_k31)
def ir_law_k68 : Srs := (.cons (.set 1 (.call 22 (.cons (.var 0) .nil))) ir_law_k68_k32)
end U
section
set_option maxHeartbeats 1000000
namespace DL
open PySem PySem.Spec PyProof.Rows L2 NdefX
theorem startF_eq {N : List Str} {vs ws : List V} : startF N vs (ws.map some) = L2.start N (vs ++ ws) := by
  unfold startF L2.start
  simp [List.append_assoc, Nat.sub_sub]
theorem cells_fz {P : Program} {w : World} {H : Hp} {h : Heap} {cl : List (Str × Addr)} {fr : List Str} {ws : List V} (ok : HOk P w H h) (hc : ClF H cl fr ws) : CellsAt cl fr (ws.map some) h (cut H) where
  len := by rw [List.length_map]; exact hc.len
  all := fun y c e => by
    obtain ⟨o, v, a, b⟩ := hc.all y c e
    exact ⟨cut_ext a, v, o, (ok c _ a).1, b⟩
  inj := hc.inj
  has := fun i y e => by
    have hi : i < ws.length := by rw [hc.len]; exact (List.getElem?_eq_some_iff.mp e).1
    obtain ⟨c, o, x, h1, h2, h3, h4⟩ := hc.has i y _ e (List.getElem?_eq_getElem hi)
    refine ⟨c, h1, fun v hv => ?_⟩
    rw [List.getElem?_map, List.getElem?_eq_getElem hi] at hv
    cases hv
    exact ⟨x, h4, o, (ok c _ h2).1, h3⟩
section
variable {P : Program} {w : World} {mg : Str → Option Value} {base : Heap} {T : Tx} {p : PI} {xm : Nat → Nat → Option Bool} {Γ : List DSp} {k n j : Nat}
/-- a closure's kind does what the translation of its body shows -/
theorem nok_D {sc : Scope} {body : List Stmt} {N ps : List Str} {mls : List (Nat × Nat)} {ir : Srs} {ψ : List D → (D → Prop) → Prop}
    (hF : ∀ cl c, (T.nF j cl c).scope = sc ∧ (T.nF j cl c).body = body ∧ (T.nF j cl c).cl = cl ∧ (T.nF j cl c).c = c) (S : NScope N ps (T.nfr j) sc)
    (hb : ∀ (cl : List (Str × Addr)) (c : Addr) (doc pm ctv : Value) (us : List Value), us.length = ps.length → bindArgs ((T.nF j cl c).fd doc pm ctv) ⟨us, []⟩ = pure (ps.zip us))
    (Pk : Pok mg T p xm) (G : ∀ j φ, Γ[j]? = some φ → AnyK P w mg base T k j φ) (tr : trSs n (p.if_ N mls) sc body = some ir)
    (h : ∀ ds q, ψ ds q → ds.length = ps.length + (T.nfr j).length → dSs Γ xm ir (endW fun _ _ _ => False) (endS fun d _ => q d) (startD N.length ds) Mem.none) : NokD P w T.K mg base T (k + 1) j ps.length ψ := by
  refine ⟨fun A outer s H us vs ws ds q f c cl Q room env hf hk hc rv hl rd tb hn hp kk => ?_⟩
  obtain ⟨hF1, hF2, hF3, hF4⟩ := hF cl c
  generalize hFF : T.nF j cl c = F at *
  have env' := env0_cut env
  have hlim : s.heap.NoLimit := env.mod.nolimit.keeps fun b o e => (env.bs b o e).1
  obtain ⟨fo, hfo⟩ := hf
  obtain ⟨_, ⟨od, sl, doc, pm, ctv, hob⟩, _⟩ := env.hok f _ hfo
  have S' : NScope N ps (T.nfr j) F.scope := by rw [hF1]; exact S
  have cells : CellsAt F.cl (T.nfr j) (ws.map some) s.heap (cut H) := by rw [hF3]; exact cells_fz env.hok hc
  have hcode : s.heap.CodeRec (.ref F.c) F.qual := by rw [hF4]; exact codeO_at env.hok hk
  refine codeAny_call_function room.depth hob rfl S'.co S'.gen rfl hcode ?_
  have hbind := hb cl c doc pm ctv us (by rw [← rv.length]; exact hl)
  rw [hFF] at hbind
  rw [hbind]
  refine wpAny_pure (wpAny_newFunctionEnv S'.nocell (fun ⟨x, _⟩ hx => S'.par x (List.of_mem_zip hx).1) (fun hp1 hns hsb => ⟨hlim.fresh _ hsb, ?_⟩) S'.kind)
  show codeAny _ _ (.func F.body (envF F f s.heap.objs.size)) _ _
  refine codeAny_func ?_
  have keep : ∀ b o, s.heap.get? b = some o → hp1.get? b = some o := fun b o e => hsb.extBut b o (Nat.ne_of_lt (Heap.lt_size e)) (Heap.get?_push_of_some _ e)
  let X : Cx := ncx (L2.CX P w) P w T.K mg base N F f A outer s (cut H) (fun _ _ _ => False)
  have start : Inv X [] (startF N vs (ws.map some)) (cut H) { s with heap := hp1, toks := s.toks + (ps.zip us).length } := inv_startN S' room.hd env' hl rv cells hns keep
  have room' : Room k X.A := room.deeper _
  have SK : Sok X T (p.if_ N mls) Γ xm sc := {
    c := { hT := rfl, hN := rfl, nd := S.nd, hsc := hF1, un := Nat.lt_of_le_of_lt (show _ ≤ X.A.units + 16 * k + 200 from by show X.A.units + 65 ≤ _; omega) room'.un, calm := rfl, fns := Pk.fns, kp := Pk.kp, cal := fun j φ e => ⟨fun hj => (by
             obtain ⟨fd, ps, us, dvs, dd, φ0, F, h1, h2, h3, h4, h5, h6⟩ := (G j φ e).1 hj
             exact ⟨⟨k, fd, ps, us, dvs, dd, φ0, F, room', h1, h2, h3, h4, h5⟩, h6⟩), fun hj => (by
             obtain ⟨n, ψ, F, r⟩ := (G j φ e).2 hj
             exact ⟨⟨k, n, ψ, F, room', r⟩⟩)⟩, free := Pk.free, glb := Pk.glb, fn := fun _ x hx => absurd rfl (S.nocell _ (PySem.mem_of_lookup hx)) }
    po := passes_of rfl
    stk := rfl
    frm := rfl
    kind := by show F.scope.kind = _; rw [hF1]; exact S.kind
    exc := fun j x e => let E := Pk.exc j x e; ⟨E.q, E.mg, E.kp, E.sb, E.ty⟩
    xm := Pk.xm }
  have tk : Takes X (liftW T (cut H) (endW fun _ _ _ => False)) :=
    (takes_of (X := X) (E := fun _ _ _ => False) rfl rfl rfl rfl).imp fun cls d σ H' ⟨j, fs, δ, M', e, ex, rl, M'', le, z⟩ => z.elim
  have dl : ds.length = ps.length + (T.nfr j).length := by rw [← rd.length, List.length_append, hl, hc.len]
  let Q0 : VK := fun v H' => Stb (cut H) H' ∧ TabsN T.tabs H' ∧ ∃ d, Den T H' v d ∧ q d
  have pre : liftS T (cut H) (dSs Γ xm ir (endW fun _ _ _ => False)) { nx := fun _ H' => Q0 .non H', rt := Q0 } (startF N vs (ws.map some)) (cut H) := by
    rw [startF_eq]
    refine ⟨startD N.length ds, Mem.none, endS fun d _ => q d, ⟨Stb.refl _, start_ok (DenL.cutd rd hn), MemOk.none (tabs_cut tb)⟩, h ds q hp dl, ?_, ?_, fun _ _ _ _ _ _ z => z, fun _ _ _ _ _ _ z => z⟩
    · rintro σ' H' δ' M' rl s ⟨M'', le, z⟩
      exact ⟨rl.base, rl.mem.2, .non, .non, z⟩
    · rintro v H' d M' b s m dd ⟨M'', le, z⟩
      exact ⟨b, m.2, d, dd, z⟩
  have bodyF : F.body = body := hF2
  have no : ∀ {e : Value} {s'' : Shared} {G : Prop}, L2.CX P w outer (cut H) s (fun _ _ _ => False) e s'' → G := fun c => (by
    obtain ⟨_, _, _, _, _, _, _, _, _, _, _, _, z⟩ := c
    exact z.elim)
  refine wpAny_mono ((show PSs X F.body _ by rw [bodyF]; exact trSs_ok n SK tk _ _ tr).run [] _ _ _ _ start pre) (fun fl s' out => ?_) fun e s' out => wpAny_mono (show wpAny _ _ _ (fun _ s'' => L2.CX P w outer (cut H) s (fun _ _ _ => False) e s'') (fun e' s'' => L2.CX P w outer (cut H) s (fun _ _ _ => False) e' s'') _ from out) (fun _ s'' c => no c) fun e' s'' c => no c
  have done : ∀ {σ' : L2.St} {H' : Hp} {v : V} {u : Value}, Inv X [] σ' H' s' → L2.RelV v u → Q0 v H' → CE outer P w H s Q u s' := by
    intro σ' H' v u J rv ⟨st, tb', d, hd, hq⟩
    have U : Un (frs outer) [] (cut H) H' s.heap s'.heap := J.base
    exact ⟨v, join H H', J.os, J.bare, un_join U, hok_join env.hok env.frf U J.hok, rv, kk v _ d (stb_old U st) (fun M m => mem_join U st env.hok tb' m) (hd.stb (stb_join env.hok U)) hq⟩
  cases fl with
  | next =>
    obtain ⟨σ', H', J, z⟩ := out
    exact done (v := V.non) (u := Value.none) J rfl z
  | ret u =>
    obtain ⟨v, σ', H', J, rv, z⟩ := out
    exact done J rv z
  | brk => obtain ⟨_, _, _, z⟩ := out; exact z.elim
  | cont => obtain ⟨_, _, _, z⟩ := out; exact z.elim
end
section
variable {P : Program} {w : World} {mg : Str → Option Value} {base : Heap} {T : Tx} {k j : Nat}
open Classical in
/-- the heap behind a closure's making: its cells, itself, locked -/
noncomputable def lockC (H : Hp) (h : Heap) (f : Addr) (F : NF) (cl : List (Str × Addr)) : Hp := fun b =>
  if b = f then (h.get? f).map fun o => .frz o (FnO f F) else if ∃ y, cl.lookup y = some b then (h.get? b).map fun o => cellO b o else H b
theorem lockC_old {H : Hp} {h : Heap} {f b : Addr} {F : NF} {cl : List (Str × Addr)} (e1 : b ≠ f) (e2 : ∀ y, cl.lookup y ≠ some b) : lockC H h f F cl b = H b := by
  unfold lockC
  rw [if_neg e1, if_neg (fun ⟨y, z⟩ => e2 y z)]
/-- def x(..): def y(..): ..; return y -/
theorem maker_D {x q nm : Str} {params : Arguments} {st1 : Stmt} {scope : Scope} {f c Pt : Addr} {fd : FuncData} {N ps : List Str} {p1 p2 pos : Pos} {i : Nat} {nmf : Nat → Nat → Str} {qp : Str}
    (F : FunD T.K x q params [st1, .Return (some (.Name nm p1)) p2] scope [] [] f fd) (S : FnScope N ps scope) (hcode : fd.code = .ref c) (TB : LamX.TabB base mg c Pt)
    (hst : st1 = .FunctionDef nm (C8.fnArgs st1) (C8.fnBody st1) [] none [] (C8.fnScope st1) none nm pos) (hqp : ∀ L f cd, (envOfC q scope L f cd).qual = qp)
    (hT : ∀ cl c, T.nF j cl c = NF.of st1 nm (qp ++ nm) cl c) (hj : T.isN j = true) (hfr : T.nfr j = ps) (hm : (Pt, nmf) ∈ T.tabs) (hn : nmf pos.line pos.col = qp ++ nm) (hu : ∀ p ∈ T.tabs, p.1 = Pt → p.2 = nmf)
    (hfree : ∀ y ∈ (C8.fnScope st1).names, y.2 = .free → scope.names.lookup y.1 = some .cell ∨ scope.names.lookup y.1 = some .free) (hps : ∀ y ∈ ps, (y, NameKind.free) ∈ (C8.fnScope st1).names)
    (hd0 : (C8.fnArgs st1).defaults = []) (hk0 : (C8.fnArgs st1).kw_defaults = []) (ha : ∀ env : Env, annTrees (C8.fnArgs st1) none env = []) (hi : N[i]? = some nm) (hx : Loc scope nm) (hpl : ps.length ≤ i)
    (hdb : (nm == ("__debug__" : Str)) = false) (hcd : (nm == ("__classdict__" : Str)) = false) :
    FnOk P w T.K mg base (L2.CX P w) (k + 1) f fd ps (liftSp T ps.length fun l M Q _ => Q (.clo j l) M) := by
  refine ⟨fun vs H Q E ⟨ds, M, QQ, EE, hl, _⟩ => hl, fun A outer s H args us vs Q E room env hbind rv hsp => ?_⟩
  obtain ⟨ds, M, QQ, EE, hl, hd, hmm, hφ, kq, ke⟩ := hsp
  obtain ⟨oc, od, dV, kV, doc, pm, an, cdv, ct, osl, rfl, lk, hcd2, _, _⟩ := F.ex
  have hcd3 : cdv = .ref c := hcode
  subst hcd3
  have hK : T.K.In s.heap := env.mod.kin.keeps fun b o e => (env.bs b o e).1
  have hlim : s.heap.NoLimit := env.mod.nolimit.keeps fun b o e => (env.bs b o e).1
  have kinds : ∀ y ∈ ps.zip us, scope.names.lookup y.1 = some .local ∨ (scope.names.lookup y.1 = some .cell ∧ ((cellsFrom (s.heap.objs.size + 1) scope.names []).lookup y.1).isSome = true) := by
    rintro ⟨y, v⟩ hy
    exact (S.par y (List.of_mem_zip hy).1).elim .inl fun z => .inr ⟨z, PySem.W.cellsFrom_some _ _ _ (.inl z)⟩
  refine codeAny_call_function room.depth (hK _ _ lk) rfl S.co S.gen rfl (PySem.W.codeRec_of hK hcd2) (hbind _ _ _ _ ?_)
  refine wpAny_newFunctionEnv_cells S.kind kinds fun env1 he s1 inc => ?_
  subst he
  refine ⟨hlim.keeps inc.toInCall.keep, codeAny_func ?_⟩
  let X : Cx := cxOf (L2.CX P w) P w T.K mg base N q scope f (.ref c) A outer s H E
  have I0 : Inv X [] (L2.start N vs) H s1 := inv_start S room.hd env hl rv inc
  have hqX : X.env.qual = qp := hqp _ _ _
  have R := ps_ndefMS (X := X) (T := T.tabs) (nm := nmf) (c := c) (P := Pt) (i := i) hst TB rfl hm (by rw [hqX]; exact hn) hu hfree hd0 hk0 (ha _) S.nd hi hx (.inl rfl)
  rw [hqX] at R
  let cl : List (Str × Addr) := cloFrom X.env.cells (C8.fnScope st1).names []
  refine wpAny_execs_cons (wpAny_mono (R.run [] s1 _ H { nx := fun σ1 H1 => ∃ (f' c' : Addr), σ1 = (L2.start N vs).set i (some (.ref f')) ∧ LamX.ExtN H H1 ∧ H f' = none ∧ TabsN T.tabs H1 ∧ H1 f' = some (FnO f' (T.nF j cl c')) ∧ H1 c' = some (LamX.CodeO c' (T.nF j cl c').qual), rt := fun _ _ => False } I0
    ⟨hmm.2, fun f' c' H1 e1 _ e2 e3 e4 e5 => ⟨f', c', rfl, e1, e3, e2, by rw [hT]; exact e4, by rw [hT]; exact e5⟩⟩) (fun fl s2 out => ?_) fun e s' out => out)
  cases fl with
  | ret u => obtain ⟨_, _, _, _, _, z⟩ := out; exact z.elim
  | brk => obtain ⟨_, _, _, z⟩ := out; exact z.elim
  | cont => obtain ⟨_, _, _, z⟩ := out; exact z.elim
  | next =>
    obtain ⟨σ1, H1, J1, f', c', rfl, ext, nf, tb1, hf1, hc1⟩ := out
    refine wpAny_execs_cons (wpAny_Return_some (thn ((pe_var (X := X) (i := i) (pos := p1) hi (hx.elim .inl fun z => .inr (.inl z)) hdb hcd).run [] s2 _ H1 (fun v H' => v = .ref f' ∧ H' = H1) J1 ⟨.ref f', ?_, rfl, rfl⟩) fun u s3 ⟨v, H', J, rvu, ev, eH⟩ => ?_))
    · rw [List.getElem?_set_self]
      have := J1.len
      rw [List.length_set] at this
      rw [this]
      exact (List.getElem?_eq_some_iff.mp hi).1
    · subst ev
      have eH' := eH.symm
      subst eH'
      cases rvu
      have caps : Caps X cl ps (List.range ps.length) := Caps.made J.ok hfree hps (by
        apply List.ext_getElem?
        intro m
        rw [List.getElem?_map, List.getElem?_map]
        by_cases hmm : m < ps.length
        · have e1 : ps[m]? = N[m]? := by
            conv => lhs; rw [← S.pre]
            rw [List.getElem?_take_of_lt hmm]
          rw [List.getElem?_range hmm, e1]
          show some (N[m]?) = Option.map some N[m]?
          have : m < N.length := Nat.lt_of_lt_of_le hmm (by have := congrArg List.length S.pre; rw [List.length_take] at this; omega)
          rw [List.getElem?_eq_getElem this]
          rfl
        · rw [List.getElem?_eq_none (by simp; omega), List.getElem?_eq_none (by omega)]
          rfl)
      have CA := cells_of J caps
      have objF := J.hok f' _ hf1
      obtain ⟨⟨odf, slf, docf, pmf, ctvf, hobf⟩, _, _⟩ := id objF
      have cell1 : ∀ y b, cl.lookup y = some b → H1 b = none := fun y b e => (CA.all y b e).1
      have nf1 : ∀ y, cl.lookup y ≠ some f' := fun y e => by
        have := cell1 y f' e
        rw [hf1] at this; cases this
      have old : ∀ b o, H1 b = some o → b ≠ f' → lockC H1 s3.heap f' (T.nF j cl c') cl b = some o := fun b o e hb => by
        rw [lockC_old hb fun y z => by rw [cell1 y b z] at e; cases e]
        exact e
      have oldN : ∀ b o, H b = some o → (∀ ps, o ≠ .tbl ps) → lockC H1 s3.heap f' (T.nF j cl c') cl b = some o := fun b o e n => old b o (ext b o e n) fun z => by
        rw [z, nf] at e; cases e
      have codNe : ∀ b y, H1 b = some (LamX.CodeO b y) → b ≠ f' := fun b y e z => by
        subst z
        obtain ⟨⟨oc2, vs2, t2, g1, g2, _⟩, _⟩ := J.hok _ _ e
        rw [hobf] at g1
        cases g1
        cases g2
      have st : Stb H (lockC H1 s3.heap f' (T.nF j cl c') cl) := ⟨fun b xs e => oldN b _ e (fun _ z => nomatch z), fun b o u e => oldN b _ e (fun _ z => nomatch z), fun b y e => oldN b _ e (fun _ z => by unfold LamX.CodeO at z; cases z)⟩
      have tb2 : TabsN T.tabs (lockC H1 s3.heap f' (T.nF j cl c') cl) := fun pt hp => by
        obtain ⟨pst, g1, g2, g3⟩ := tb1 pt hp
        refine ⟨pst, old _ _ g1 (fun z => ?_), g2, fun pos cv hcv => ?_⟩
        · rw [z, hf1] at g1
          unfold FnO at g1
          cases g1
        · obtain ⟨c2, g4, g5⟩ := g3 pos cv hcv
          exact ⟨c2, g4, old _ _ g5 (codNe _ _ g5)⟩
      have at_f : lockC H1 s3.heap f' (T.nF j cl c') cl f' = some (.frz ⟨.type "function", odf, .func ((T.nF j cl c').fd docf pmf ctvf), slf⟩ (FnO f' (T.nF j cl c'))) := by
        unfold lockC
        rw [if_pos rfl, hobf]
        rfl
      have at_c : ∀ y b o, cl.lookup y = some b → s3.heap.get? b = some o → lockC H1 s3.heap f' (T.nF j cl c') cl b = some (cellO b o) := fun y b o e g => by
        unfold lockC
        rw [if_neg (fun z => nf1 y (by rw [← z]; exact e)), if_pos ⟨y, e⟩, g]
        rfl
      have rest : ∀ b o, lockC H1 s3.heap f' (T.nF j cl c') cl b = some o → b = f' ∨ (∃ y, cl.lookup y = some b) ∨ H1 b = some o := fun b o e => by
        by_cases h1 : b = f'
        · exact .inl h1
        · by_cases h2 : ∃ y, cl.lookup y = some b
          · exact .inr (.inl h2)
          · rw [lockC_old h1 fun y z => h2 ⟨y, z⟩] at e
            exact .inr (.inr e)
      have hok2 : HOk P w (lockC H1 s3.heap f' (T.nF j cl c') cl) s3.heap := fun b o e => by
        have own2 : ∀ d, H1 d = some (.own b) → lockC H1 s3.heap f' (T.nF j cl c') cl d = some (.own b) := fun d g => old d _ g fun z => by
          rw [z, hf1] at g; unfold FnO at g; cases g
        have tup2 : ∀ d xs, H1 d = some (.tup xs) → lockC H1 s3.heap f' (T.nF j cl c') cl d = some (.tup xs) := fun d xs g => old d _ g fun z => by
          rw [z, hf1] at g; unfold FnO at g; cases g
        rcases rest b o e with h1 | ⟨y, h1⟩ | h1
        · subst h1
          rw [at_f] at e
          cases e
          exact ⟨hobf, objF.stay (fun _ _ _ g => g) own2 tup2⟩
        · obtain ⟨v, ob, g1, g2⟩ := (CA.all y b h1).2
          rw [at_c y b ob h1 g1] at e
          cases e
          exact ⟨g1, g1, ⟨ob, g1⟩, fun h1 h2 g3 g4 => g4 _ g3⟩
        · exact (J.hok b o h1).stay (fun _ _ _ g => g) own2 tup2
      have mm2 : MemOk T (lockC H1 s3.heap f' (T.nF j cl c') cl) M := ⟨fun b o e => by
        have y := hmm.1 b o e
        cases o with
        | lst es => obtain ⟨zs, g, r⟩ := y; exact ⟨zs, oldN _ _ g (fun _ z => nomatch z), r.stb st⟩
        | ins C es => obtain ⟨dx, zs, g, r⟩ := y; exact ⟨dx, zs, oldN _ _ g (fun _ z => nomatch z), DenF.stb st r⟩, tb2⟩
      have un2 : Un (frs outer) [] H (lockC H1 s3.heap f' (T.nF j cl c') cl) s.heap s3.heap := by
        have U : Un (frs outer) [] H H1 s.heap s3.heap := J.base
        refine ⟨U.keep, U.slot, fun b o g n hx => ?_, U.there, fun b xs e => oldN b _ e (fun _ z => nomatch z), fun b o u e => oldN b _ e (fun _ z => nomatch z), fun b ps e => ?_⟩
        · have g1 := U.free b o g n hx
          rw [lockC_old (fun z => by rw [z, hf1] at g1; cases g1) fun y z => ?_]
          · exact g1
          · have := J.ok.cab y b rfl (caps.sub y b z)
            exact absurd (Nat.lt_of_lt_of_le (Heap.lt_size g) this) (Nat.lt_irrefl _)
        · obtain ⟨more, g⟩ := U.tbls b ps e
          exact ⟨more, old b _ g fun z => by rw [z, hf1] at g; unfold FnO at g; cases g⟩
      have lvs : vs.length = ps.length := hl
      have slot : ∀ m, m < ps.length → ((List.range ps.length).map (NdefX.slotAt ((L2.start N vs).set i (some (.ref f')))))[m]? = some vs[m]? := fun m hm => by
        rw [List.getElem?_map, List.getElem?_range hm]
        show some (NdefX.slotAt _ m) = _
        have e1 : ((L2.start N vs).set i (some (V.ref f')))[m]? = some (some (vs[m]'(by omega))) := by
          rw [List.getElem?_set_ne (by omega)]
          unfold L2.start
          rw [List.getElem?_append_left (by rw [List.length_map]; omega), List.getElem?_map, List.getElem?_eq_getElem (by omega)]
          rfl
        rw [slotAt_of e1, List.getElem?_eq_getElem (by omega)]
      have clf : ClF (lockC H1 s3.heap f' (T.nF j cl c') cl) cl (T.nfr j) vs := by
        rw [hfr]
        refine ⟨lvs, fun y b e => ?_, CA.inj, fun m y v e1 e2 => ?_⟩
        · obtain ⟨v, ob, g1, g2⟩ := (CA.all y b e).2
          exact ⟨ob, v, at_c y b ob e g1, g2⟩
        · obtain ⟨b, g1, g2⟩ := CA.has m y e1
          have hm2 : m < ps.length := (List.getElem?_eq_some_iff.mp e1).1
          obtain ⟨u, g3, ob, g4, g5⟩ := g2 v (by rw [slot m hm2, e2])
          exact ⟨b, ob, u, g1, at_c y b ob g1 g4, g5, g3⟩
      have kc : lockC H1 s3.heap f' (T.nF j cl c') cl c' = some (LamX.CodeO c' (T.nF j cl c').qual) := old _ _ hc1 (codNe _ _ hc1)
      exact ⟨.ref f', _, J.os, J.bare, un2, hok2, rfl, kq _ _ _ M st mm2 (.clo hj ⟨_, at_f⟩ kc clf (hd.stb st)) hφ⟩
end
end DL
end
namespace U
open PySem PySem.Spec PyProof.Rows L2 DL
def top (i : Nat) : Stmt := PySem.Challenge.pw_roundonce_k68_whole_intervals_of_values.main.body.getD i (.Pass ⟨0, 0, 0, 0⟩)
def fns : List (Str × Nat) := ([("is_whole", 1), ("shared", 2), ("fraction", 2), ("fraction", 1), ("is_whole", 99), ("plus", 2), ("is_whole", 99), ("times", 2), ("over", 2), ("against", 1), ("is_whole", 99), ("order", 2), ("below", 2), ("at_most", 2), ("least_of", 1), ("most_of", 1), ("floor", 1), ("is_whole", 99), ("raised", 2), ("power", 2)] : List (Str × Nat)) ++ ([("is_whole", 99), ("digits_in", 2), ("_law_draws", 1), ("_law_draw", 2), ("_law_same", 2), ("is_whole", 99), ("is_whole", 99), ("is_format", 1), ("look_at_format", 1), ("is_mode", 1), ("look_at_mode", 1), ("full", 1), ("above", 1), ("how_many", 1), ("is_whole", 99), ("is_whole", 99), ("is_whole", 99), ("is_value", 2), ("look_at_value", 2), ("exact", 2)] : List (Str × Nat)) ++ ([("rank", 2), ("is_whole", 99), ("is_whole", 99), ("is_finite", 1), ("oracle_of", 2), ("", 98), ("goes_up", 4), ("beyond", 3), ("put_low", 4), ("put", 4), ("rounded", 4), ("rounded", 3), ("is_whole", 99), ("is_whole", 99), ("is_whole", 99), ("is_whole", 99), ("is_whole", 99), ("is_whole", 99), ("is_whole", 99), ("is_whole", 99)] : List (Str × Nat)) ++ ([("is_whole", 99), ("_law_raise", 2), ("_law_format", 1), ("is_whole", 99), ("_law_goes", 5), ("_law_below", 6), ("_law_round", 5), ("_law_exact", 2), ("_law_number", 2), ("is_whole", 99), ("is_whole", 99), ("is_whole", 99), ("is_whole", 99), ("is_whole", 99), ("_law_fraction", 1), ("_law_pick", 2), ("is_whole", 99), ("is_whole", 99), ("is_whole", 99), ("is_whole", 99)] : List (Str × Nat)) ++ ([("compared", 3), ("ends", 1), ("sum_range", 2), ("turned_range", 1), ("product_range", 2), ("has_nought", 1), ("quotient_range", 2), ("is_interval", 2), ("look_at_interval", 2), ("whole_line", 0), ("around", 3), ("has", 3), ("range_in", 2), ("met", 3), ("hull", 3), ("is_inside", 3), ("ranged", 3), ("made", 4), ("_law_key", 2), ("_law_le", 3)] : List (Str × Nat)) ++ ([("_law_interval", 2), ("_law_ends", 2), ("_law_around", 2), ("_law_made", 4), ("_law_has", 4), ("_law_alike", 3)] : List (Str × Nat))
def pin : PI := { fns := fns, free := (["isinstance", "int", "bool", "abs", "tuple", "list", "str", "len", "range", "max", "min", "all"] : List Str), glb := [("NOUGHT", .tup [.int 0, .int 1]), ("MOST_DIGITS", .int 120), ("MOST_EXPONENT", .int 5000), ("MODES", .tup [.str "even", .str "away", .str "up", .str "down", .str "zero", .str "odd"]), ("NOTHING", .int 0), ("LESS", .int 1), ("HALF", .int 2), ("MORE", .int 3)], exs := (["BadPlan", "BadFormat", "BadPlan", "BadPlan"] : List Str) }
abbrev st_is_whole : Stmt := top 6
theorem tr_is_whole : trSs 60 (pin.if_ (["value"] : List Str) []) (defScope st_is_whole) (defBody st_is_whole) = some ir_is_whole := by kernel_rfl
theorem sc_is_whole : FnScope (["value"] : List Str) (["value"] : List Str) (defScope st_is_whole) := ⟨rfl, rfl, rfl, by decide +kernel, rfl, by decide +kernel, by decide +kernel⟩
abbrev st_shared : Stmt := top 7
theorem tr_shared : trSs 60 (pin.if_ (["first", "other"] : List Str) []) (defScope st_shared) (defBody st_shared) = some ir_shared := by kernel_rfl
theorem sc_shared : FnScope (["first", "other"] : List Str) (["first", "other"] : List Str) (defScope st_shared) := ⟨rfl, rfl, rfl, by decide +kernel, rfl, by decide +kernel, by decide +kernel⟩
abbrev st_fraction : Stmt := top 8
theorem tr_fraction : trSs 60 (pin.if_ (["above", "below", "by"] : List Str) []) (defScope st_fraction) (defBody st_fraction) = some ir_fraction := by kernel_rfl
theorem sc_fraction : FnScope (["above", "below", "by"] : List Str) (["above", "below"] : List Str) (defScope st_fraction) := ⟨rfl, rfl, rfl, by decide +kernel, rfl, by decide +kernel, by decide +kernel⟩
abbrev st_plus : Stmt := top 9
theorem tr_plus : trSs 60 (pin.if_ (["one", "two"] : List Str) []) (defScope st_plus) (defBody st_plus) = some ir_plus := by kernel_rfl
theorem sc_plus : FnScope (["one", "two"] : List Str) (["one", "two"] : List Str) (defScope st_plus) := ⟨rfl, rfl, rfl, by decide +kernel, rfl, by decide +kernel, by decide +kernel⟩
abbrev st_times : Stmt := top 10
theorem tr_times : trSs 60 (pin.if_ (["one", "two"] : List Str) []) (defScope st_times) (defBody st_times) = some ir_times := by kernel_rfl
theorem sc_times : FnScope (["one", "two"] : List Str) (["one", "two"] : List Str) (defScope st_times) := ⟨rfl, rfl, rfl, by decide +kernel, rfl, by decide +kernel, by decide +kernel⟩
abbrev st_over : Stmt := top 11
theorem tr_over : trSs 60 (pin.if_ (["one", "two"] : List Str) []) (defScope st_over) (defBody st_over) = some ir_over := by kernel_rfl
theorem sc_over : FnScope (["one", "two"] : List Str) (["one", "two"] : List Str) (defScope st_over) := ⟨rfl, rfl, rfl, by decide +kernel, rfl, by decide +kernel, by decide +kernel⟩
abbrev st_against : Stmt := top 12
theorem tr_against : trSs 60 (pin.if_ (["one"] : List Str) []) (defScope st_against) (defBody st_against) = some ir_against := by kernel_rfl
theorem sc_against : FnScope (["one"] : List Str) (["one"] : List Str) (defScope st_against) := ⟨rfl, rfl, rfl, by decide +kernel, rfl, by decide +kernel, by decide +kernel⟩
abbrev st_order : Stmt := top 13
theorem tr_order : trSs 60 (pin.if_ (["one", "two", "left", "right"] : List Str) []) (defScope st_order) (defBody st_order) = some ir_order := by kernel_rfl
theorem sc_order : FnScope (["one", "two", "left", "right"] : List Str) (["one", "two"] : List Str) (defScope st_order) := ⟨rfl, rfl, rfl, by decide +kernel, rfl, by decide +kernel, by decide +kernel⟩
abbrev st_below : Stmt := top 14
theorem tr_below : trSs 60 (pin.if_ (["one", "two"] : List Str) []) (defScope st_below) (defBody st_below) = some ir_below := by kernel_rfl
theorem sc_below : FnScope (["one", "two"] : List Str) (["one", "two"] : List Str) (defScope st_below) := ⟨rfl, rfl, rfl, by decide +kernel, rfl, by decide +kernel, by decide +kernel⟩
abbrev st_at_most : Stmt := top 15
theorem tr_at_most : trSs 60 (pin.if_ (["one", "two"] : List Str) []) (defScope st_at_most) (defBody st_at_most) = some ir_at_most := by kernel_rfl
theorem sc_at_most : FnScope (["one", "two"] : List Str) (["one", "two"] : List Str) (defScope st_at_most) := ⟨rfl, rfl, rfl, by decide +kernel, rfl, by decide +kernel, by decide +kernel⟩
abbrev st_least_of : Stmt := top 16
theorem tr_least_of : trSs 60 (pin.if_ (["rows", "found", "one"] : List Str) []) (defScope st_least_of) (defBody st_least_of) = some ir_least_of := by kernel_rfl
theorem sc_least_of : FnScope (["rows", "found", "one"] : List Str) (["rows"] : List Str) (defScope st_least_of) := ⟨rfl, rfl, rfl, by decide +kernel, rfl, by decide +kernel, by decide +kernel⟩
abbrev st_most_of : Stmt := top 17
theorem tr_most_of : trSs 60 (pin.if_ (["rows", "one"] : List Str) []) (defScope st_most_of) (defBody st_most_of) = some ir_most_of := by kernel_rfl
theorem sc_most_of : FnScope (["rows", "one"] : List Str) (["rows"] : List Str) (defScope st_most_of) := ⟨rfl, rfl, rfl, by decide +kernel, rfl, by decide +kernel, by decide +kernel⟩
abbrev st_floor : Stmt := top 18
theorem tr_floor : trSs 60 (pin.if_ (["one"] : List Str) []) (defScope st_floor) (defBody st_floor) = some ir_floor := by kernel_rfl
theorem sc_floor : FnScope (["one"] : List Str) (["one"] : List Str) (defScope st_floor) := ⟨rfl, rfl, rfl, by decide +kernel, rfl, by decide +kernel, by decide +kernel⟩
abbrev st_power : Stmt := top 19
theorem tr_power : trSs 60 (pin.if_ (["base", "exponent"] : List Str) []) (defScope st_power) (defBody st_power) = some ir_power := by kernel_rfl
theorem sc_power : FnScope (["base", "exponent"] : List Str) (["base", "exponent"] : List Str) (defScope st_power) := ⟨rfl, rfl, rfl, by decide +kernel, rfl, by decide +kernel, by decide +kernel⟩
abbrev st_raised : Stmt := top 20
theorem tr_raised : trSs 60 (pin.if_ (["base", "exponent", "found", "here"] : List Str) []) (defScope st_raised) (defBody st_raised) = some ir_raised := by kernel_rfl
theorem sc_raised : FnScope (["base", "exponent", "found", "here"] : List Str) (["base", "exponent"] : List Str) (defScope st_raised) := ⟨rfl, rfl, rfl, by decide +kernel, rfl, by decide +kernel, by decide +kernel⟩
abbrev st_digits_in : Stmt := top 21
theorem tr_digits_in : trSs 60 (pin.if_ (["number", "base", "rows", "found", "at"] : List Str) [(60, 11)]) (defScope st_digits_in) (defBody st_digits_in) = some ir_digits_in := by kernel_rfl
theorem sc_digits_in : FnScope (["number", "base", "rows", "found", "at"] : List Str) (["number", "base"] : List Str) (defScope st_digits_in) := ⟨rfl, rfl, rfl, by decide +kernel, rfl, by decide +kernel, by decide +kernel⟩
abbrev st_is_format : Stmt := top 26
theorem tr_is_format : trSs 60 (pin.if_ (["value", "base", "digits", "low", "high", "tiny", "one"] : List Str) []) (defScope st_is_format) (defBody st_is_format) = some ir_is_format := by kernel_rfl
theorem sc_is_format : FnScope (["value", "base", "digits", "low", "high", "tiny", "one"] : List Str) (["value"] : List Str) (defScope st_is_format) := ⟨rfl, rfl, rfl, by decide +kernel, rfl, by decide +kernel, by decide +kernel⟩
abbrev st_look_at_format : Stmt := top 27
theorem tr_look_at_format : trSs 60 (pin.if_ (["value"] : List Str) []) (defScope st_look_at_format) (defBody st_look_at_format) = some ir_look_at_format := by kernel_rfl
theorem sc_look_at_format : FnScope (["value"] : List Str) (["value"] : List Str) (defScope st_look_at_format) := ⟨rfl, rfl, rfl, by decide +kernel, rfl, by decide +kernel, by decide +kernel⟩
abbrev st_is_mode : Stmt := top 28
theorem tr_is_mode : trSs 60 (pin.if_ (["value"] : List Str) []) (defScope st_is_mode) (defBody st_is_mode) = some ir_is_mode := by kernel_rfl
theorem sc_is_mode : FnScope (["value"] : List Str) (["value"] : List Str) (defScope st_is_mode) := ⟨rfl, rfl, rfl, by decide +kernel, rfl, by decide +kernel, by decide +kernel⟩
abbrev st_look_at_mode : Stmt := top 29
theorem tr_look_at_mode : trSs 60 (pin.if_ (["value"] : List Str) []) (defScope st_look_at_mode) (defBody st_look_at_mode) = some ir_look_at_mode := by kernel_rfl
theorem sc_look_at_mode : FnScope (["value"] : List Str) (["value"] : List Str) (defScope st_look_at_mode) := ⟨rfl, rfl, rfl, by decide +kernel, rfl, by decide +kernel, by decide +kernel⟩
abbrev st_full : Stmt := top 30
theorem tr_full : trSs 60 (pin.if_ (["format"] : List Str) []) (defScope st_full) (defBody st_full) = some ir_full := by kernel_rfl
theorem sc_full : FnScope (["format"] : List Str) (["format"] : List Str) (defScope st_full) := ⟨rfl, rfl, rfl, by decide +kernel, rfl, by decide +kernel, by decide +kernel⟩
abbrev st_above : Stmt := top 31
theorem tr_above : trSs 60 (pin.if_ (["format"] : List Str) []) (defScope st_above) (defBody st_above) = some ir_above := by kernel_rfl
theorem sc_above : FnScope (["format"] : List Str) (["format"] : List Str) (defScope st_above) := ⟨rfl, rfl, rfl, by decide +kernel, rfl, by decide +kernel, by decide +kernel⟩
abbrev st_how_many : Stmt := top 32
theorem tr_how_many : trSs 60 (pin.if_ (["format", "base", "digits", "low", "high", "tiny"] : List Str) []) (defScope st_how_many) (defBody st_how_many) = some ir_how_many := by kernel_rfl
theorem sc_how_many : FnScope (["format", "base", "digits", "low", "high", "tiny"] : List Str) (["format"] : List Str) (defScope st_how_many) := ⟨rfl, rfl, rfl, by decide +kernel, rfl, by decide +kernel, by decide +kernel⟩
abbrev st_is_value : Stmt := top 34
theorem tr_is_value : trSs 60 (pin.if_ (["format", "value", "m", "e"] : List Str) []) (defScope st_is_value) (defBody st_is_value) = some ir_is_value := by kernel_rfl
theorem sc_is_value : FnScope (["format", "value", "m", "e"] : List Str) (["format", "value"] : List Str) (defScope st_is_value) := ⟨rfl, rfl, rfl, by decide +kernel, rfl, by decide +kernel, by decide +kernel⟩
abbrev st_look_at_value : Stmt := top 35
theorem tr_look_at_value : trSs 60 (pin.if_ (["format", "value"] : List Str) []) (defScope st_look_at_value) (defBody st_look_at_value) = some ir_look_at_value := by kernel_rfl
theorem sc_look_at_value : FnScope (["format", "value"] : List Str) (["format", "value"] : List Str) (defScope st_look_at_value) := ⟨rfl, rfl, rfl, by decide +kernel, rfl, by decide +kernel, by decide +kernel⟩
abbrev st_exact : Stmt := top 36
theorem tr_exact : trSs 60 (pin.if_ (["format", "value"] : List Str) []) (defScope st_exact) (defBody st_exact) = some ir_exact := by kernel_rfl
theorem sc_exact : FnScope (["format", "value"] : List Str) (["format", "value"] : List Str) (defScope st_exact) := ⟨rfl, rfl, rfl, by decide +kernel, rfl, by decide +kernel, by decide +kernel⟩
abbrev st_rank : Stmt := top 37
theorem tr_rank : trSs 60 (pin.if_ (["format", "value", "few", "wide"] : List Str) []) (defScope st_rank) (defBody st_rank) = some ir_rank := by kernel_rfl
theorem sc_rank : FnScope (["format", "value", "few", "wide"] : List Str) (["format", "value"] : List Str) (defScope st_rank) := ⟨rfl, rfl, rfl, by decide +kernel, rfl, by decide +kernel, by decide +kernel⟩
abbrev st_compared : Stmt := top 38
theorem tr_compared : trSs 60 (pin.if_ (["format", "one", "two", "first", "other"] : List Str) []) (defScope st_compared) (defBody st_compared) = some ir_compared := by kernel_rfl
theorem sc_compared : FnScope (["format", "one", "two", "first", "other"] : List Str) (["format", "one", "two"] : List Str) (defScope st_compared) := ⟨rfl, rfl, rfl, by decide +kernel, rfl, by decide +kernel, by decide +kernel⟩
abbrev st_is_finite : Stmt := top 39
theorem tr_is_finite : trSs 60 (pin.if_ (["value"] : List Str) []) (defScope st_is_finite) (defBody st_is_finite) = some ir_is_finite := by kernel_rfl
theorem sc_is_finite : FnScope (["value"] : List Str) (["value"] : List Str) (defScope st_is_finite) := ⟨rfl, rfl, rfl, by decide +kernel, rfl, by decide +kernel, by decide +kernel⟩
abbrev st_goes_up : Stmt := top 46
theorem tr_goes_up : trSs 60 (pin.if_ (["mode", "sign", "m", "how"] : List Str) []) (defScope st_goes_up) (defBody st_goes_up) = some ir_goes_up := by kernel_rfl
theorem sc_goes_up : FnScope (["mode", "sign", "m", "how"] : List Str) (["mode", "sign", "m", "how"] : List Str) (defScope st_goes_up) := ⟨rfl, rfl, rfl, by decide +kernel, rfl, by decide +kernel, by decide +kernel⟩
abbrev st_beyond : Stmt := top 47
theorem tr_beyond : trSs 60 (pin.if_ (["format", "mode", "sign"] : List Str) []) (defScope st_beyond) (defBody st_beyond) = some ir_beyond := by kernel_rfl
theorem sc_beyond : FnScope (["format", "mode", "sign"] : List Str) (["format", "mode", "sign"] : List Str) (defScope st_beyond) := ⟨rfl, rfl, rfl, by decide +kernel, rfl, by decide +kernel, by decide +kernel⟩
abbrev st_put : Stmt := top 48
theorem tr_put : trSs 60 (pin.if_ (["format", "mode", "sign", "oracle", "low", "many", "e", "m", "how", "flags"] : List Str) []) (defScope st_put) (defBody st_put) = some ir_put := by kernel_rfl
theorem sc_put : FnScope (["format", "mode", "sign", "oracle", "low", "many", "e", "m", "how", "flags"] : List Str) (["format", "mode", "sign", "oracle"] : List Str) (defScope st_put) := ⟨rfl, rfl, rfl, by decide +kernel, rfl, by decide +kernel, by decide +kernel⟩
abbrev st_put_low : Stmt := top 49
theorem tr_put_low : trSs 60 (pin.if_ (["format", "mode", "sign", "low", "m", "how", "twice", "near", "goes"] : List Str) []) (defScope st_put_low) (defBody st_put_low) = some ir_put_low := by kernel_rfl
theorem sc_put_low : FnScope (["format", "mode", "sign", "low", "m", "how", "twice", "near", "goes"] : List Str) (["format", "mode", "sign", "low"] : List Str) (defScope st_put_low) := ⟨rfl, rfl, rfl, by decide +kernel, rfl, by decide +kernel, by decide +kernel⟩
abbrev st_rounded : Stmt := top 50
theorem tr_rounded : trSs 60 (pin.if_ (["format", "mode", "number", "sign", "own"] : List Str) []) (defScope st_rounded) (defBody st_rounded) = some ir_rounded := by kernel_rfl
theorem sc_rounded : FnScope (["format", "mode", "number", "sign", "own"] : List Str) (["format", "mode", "number", "sign"] : List Str) (defScope st_rounded) := ⟨rfl, rfl, rfl, by decide +kernel, rfl, by decide +kernel, by decide +kernel⟩
abbrev st_ends : Stmt := top 52
theorem tr_ends : trSs 60 (pin.if_ (["rows"] : List Str) []) (defScope st_ends) (defBody st_ends) = some ir_ends := by kernel_rfl
theorem sc_ends : FnScope (["rows"] : List Str) (["rows"] : List Str) (defScope st_ends) := ⟨rfl, rfl, rfl, by decide +kernel, rfl, by decide +kernel, by decide +kernel⟩
abbrev st_sum_range : Stmt := top 53
theorem tr_sum_range : trSs 60 (pin.if_ (["one", "two"] : List Str) []) (defScope st_sum_range) (defBody st_sum_range) = some ir_sum_range := by kernel_rfl
theorem sc_sum_range : FnScope (["one", "two"] : List Str) (["one", "two"] : List Str) (defScope st_sum_range) := ⟨rfl, rfl, rfl, by decide +kernel, rfl, by decide +kernel, by decide +kernel⟩
abbrev st_turned_range : Stmt := top 54
theorem tr_turned_range : trSs 60 (pin.if_ (["one"] : List Str) []) (defScope st_turned_range) (defBody st_turned_range) = some ir_turned_range := by kernel_rfl
theorem sc_turned_range : FnScope (["one"] : List Str) (["one"] : List Str) (defScope st_turned_range) := ⟨rfl, rfl, rfl, by decide +kernel, rfl, by decide +kernel, by decide +kernel⟩
abbrev st_product_range : Stmt := top 55
theorem tr_product_range : trSs 60 (pin.if_ (["one", "two", "a", "b"] : List Str) []) (defScope st_product_range) (defBody st_product_range) = some ir_product_range := by kernel_rfl
theorem sc_product_range : FnScope (["one", "two", "a", "b"] : List Str) (["one", "two"] : List Str) (defScope st_product_range) := ⟨rfl, rfl, rfl, by decide +kernel, rfl, by decide +kernel, by decide +kernel⟩
abbrev st_has_nought : Stmt := top 56
theorem tr_has_nought : trSs 60 (pin.if_ (["one"] : List Str) []) (defScope st_has_nought) (defBody st_has_nought) = some ir_has_nought := by kernel_rfl
theorem sc_has_nought : FnScope (["one"] : List Str) (["one"] : List Str) (defScope st_has_nought) := ⟨rfl, rfl, rfl, by decide +kernel, rfl, by decide +kernel, by decide +kernel⟩
abbrev st_quotient_range : Stmt := top 57
theorem tr_quotient_range : trSs 60 (pin.if_ (["one", "two", "a", "b"] : List Str) []) (defScope st_quotient_range) (defBody st_quotient_range) = some ir_quotient_range := by kernel_rfl
theorem sc_quotient_range : FnScope (["one", "two", "a", "b"] : List Str) (["one", "two"] : List Str) (defScope st_quotient_range) := ⟨rfl, rfl, rfl, by decide +kernel, rfl, by decide +kernel, by decide +kernel⟩
abbrev st_is_interval : Stmt := top 59
theorem tr_is_interval : trSs 60 (pin.if_ (["format", "value", "one"] : List Str) []) (defScope st_is_interval) (defBody st_is_interval) = some ir_is_interval := by kernel_rfl
theorem sc_is_interval : FnScope (["format", "value", "one"] : List Str) (["format", "value"] : List Str) (defScope st_is_interval) := ⟨rfl, rfl, rfl, by decide +kernel, rfl, by decide +kernel, by decide +kernel⟩
abbrev st_look_at_interval : Stmt := top 60
theorem tr_look_at_interval : trSs 60 (pin.if_ (["format", "value"] : List Str) []) (defScope st_look_at_interval) (defBody st_look_at_interval) = some ir_look_at_interval := by kernel_rfl
theorem sc_look_at_interval : FnScope (["format", "value"] : List Str) (["format", "value"] : List Str) (defScope st_look_at_interval) := ⟨rfl, rfl, rfl, by decide +kernel, rfl, by decide +kernel, by decide +kernel⟩
abbrev st_whole_line : Stmt := top 61
theorem tr_whole_line : trSs 60 (pin.if_ ([] : List Str) []) (defScope st_whole_line) (defBody st_whole_line) = some ir_whole_line := by kernel_rfl
theorem sc_whole_line : FnScope ([] : List Str) ([] : List Str) (defScope st_whole_line) := ⟨rfl, rfl, rfl, by decide +kernel, rfl, by decide +kernel, by decide +kernel⟩
abbrev st_around : Stmt := top 62
theorem tr_around : trSs 60 (pin.if_ (["format", "low", "high"] : List Str) []) (defScope st_around) (defBody st_around) = some ir_around := by kernel_rfl
theorem sc_around : FnScope (["format", "low", "high"] : List Str) (["format", "low", "high"] : List Str) (defScope st_around) := ⟨rfl, rfl, rfl, by decide +kernel, rfl, by decide +kernel, by decide +kernel⟩
abbrev st_has : Stmt := top 63
theorem tr_has : trSs 60 (pin.if_ (["format", "interval", "number", "low", "high"] : List Str) []) (defScope st_has) (defBody st_has) = some ir_has := by kernel_rfl
theorem sc_has : FnScope (["format", "interval", "number", "low", "high"] : List Str) (["format", "interval", "number"] : List Str) (defScope st_has) := ⟨rfl, rfl, rfl, by decide +kernel, rfl, by decide +kernel, by decide +kernel⟩
abbrev st_range_in : Stmt := top 64
theorem tr_range_in : trSs 60 (pin.if_ (["format", "interval"] : List Str) []) (defScope st_range_in) (defBody st_range_in) = some ir_range_in := by kernel_rfl
theorem sc_range_in : FnScope (["format", "interval"] : List Str) (["format", "interval"] : List Str) (defScope st_range_in) := ⟨rfl, rfl, rfl, by decide +kernel, rfl, by decide +kernel, by decide +kernel⟩
abbrev st_met : Stmt := top 65
theorem tr_met : trSs 60 (pin.if_ (["format", "one", "two", "low", "high"] : List Str) []) (defScope st_met) (defBody st_met) = some ir_met := by kernel_rfl
theorem sc_met : FnScope (["format", "one", "two", "low", "high"] : List Str) (["format", "one", "two"] : List Str) (defScope st_met) := ⟨rfl, rfl, rfl, by decide +kernel, rfl, by decide +kernel, by decide +kernel⟩
abbrev st_hull : Stmt := top 66
theorem tr_hull : trSs 60 (pin.if_ (["format", "one", "two", "low", "high"] : List Str) []) (defScope st_hull) (defBody st_hull) = some ir_hull := by kernel_rfl
theorem sc_hull : FnScope (["format", "one", "two", "low", "high"] : List Str) (["format", "one", "two"] : List Str) (defScope st_hull) := ⟨rfl, rfl, rfl, by decide +kernel, rfl, by decide +kernel, by decide +kernel⟩
abbrev st_is_inside : Stmt := top 67
theorem tr_is_inside : trSs 60 (pin.if_ (["format", "one", "two"] : List Str) []) (defScope st_is_inside) (defBody st_is_inside) = some ir_is_inside := by kernel_rfl
theorem sc_is_inside : FnScope (["format", "one", "two"] : List Str) (["format", "one", "two"] : List Str) (defScope st_is_inside) := ⟨rfl, rfl, rfl, by decide +kernel, rfl, by decide +kernel, by decide +kernel⟩
abbrev st_made : Stmt := top 68
theorem tr_made : trSs 60 (pin.if_ (["format", "word", "one", "two", "first", "other", "told"] : List Str) []) (defScope st_made) (defBody st_made) = some ir_made := by kernel_rfl
theorem sc_made : FnScope (["format", "word", "one", "two", "first", "other", "told"] : List Str) (["format", "word", "one", "two"] : List Str) (defScope st_made) := ⟨rfl, rfl, rfl, by decide +kernel, rfl, by decide +kernel, by decide +kernel⟩
abbrev st_ranged : Stmt := top 69
theorem tr_ranged : trSs 60 (pin.if_ (["word", "first", "other"] : List Str) []) (defScope st_ranged) (defBody st_ranged) = some ir_ranged := by kernel_rfl
theorem sc_ranged : FnScope (["word", "first", "other"] : List Str) (["word", "first", "other"] : List Str) (defScope st_ranged) := ⟨rfl, rfl, rfl, by decide +kernel, rfl, by decide +kernel, by decide +kernel⟩
abbrev st_law_draws : Stmt := top 71
theorem tr_law_draws : trSs 60 (pin.if_ (["script"] : List Str) [(303, 11)]) (defScope st_law_draws) (defBody st_law_draws) = some ir_law_draws := by kernel_rfl
theorem sc_law_draws : FnScope (["script"] : List Str) (["script"] : List Str) (defScope st_law_draws) := ⟨rfl, rfl, rfl, by decide +kernel, rfl, by decide +kernel, by decide +kernel⟩
abbrev st_law_draw : Stmt := top 72
theorem tr_law_draw : trSs 60 (pin.if_ (["draws", "limit", "cell", "value"] : List Str) []) (defScope st_law_draw) (defBody st_law_draw) = some ir_law_draw := by kernel_rfl
theorem sc_law_draw : FnScope (["draws", "limit", "cell", "value"] : List Str) (["draws", "limit"] : List Str) (defScope st_law_draw) := ⟨rfl, rfl, rfl, by decide +kernel, rfl, by decide +kernel, by decide +kernel⟩
abbrev st_law_same : Stmt := top 73
theorem tr_law_same : trSs 60 (pin.if_ (["actual", "expected", "k"] : List Str) []) (defScope st_law_same) (defBody st_law_same) = some ir_law_same := by kernel_rfl
theorem sc_law_same : FnScope (["actual", "expected", "k"] : List Str) (["actual", "expected"] : List Str) (defScope st_law_same) := ⟨rfl, rfl, rfl, by decide +kernel, rfl, by decide +kernel, by decide +kernel⟩
abbrev st_law_raise : Stmt := top 74
theorem tr_law_raise : trSs 60 (pin.if_ (["base", "many", "found", "k"] : List Str) []) (defScope st_law_raise) (defBody st_law_raise) = some ir_law_raise := by kernel_rfl
theorem sc_law_raise : FnScope (["base", "many", "found", "k"] : List Str) (["base", "many"] : List Str) (defScope st_law_raise) := ⟨rfl, rfl, rfl, by decide +kernel, rfl, by decide +kernel, by decide +kernel⟩
abbrev st_law_format : Stmt := top 75
theorem tr_law_format : trSs 60 (pin.if_ (["draws", "base", "low"] : List Str) []) (defScope st_law_format) (defBody st_law_format) = some ir_law_format := by kernel_rfl
theorem sc_law_format : FnScope (["draws", "base", "low"] : List Str) (["draws"] : List Str) (defScope st_law_format) := ⟨rfl, rfl, rfl, by decide +kernel, rfl, by decide +kernel, by decide +kernel⟩
abbrev st_law_goes : Stmt := top 77
theorem tr_law_goes : trSs 60 (pin.if_ (["mode", "sign", "m", "double", "den"] : List Str) []) (defScope st_law_goes) (defBody st_law_goes) = some ir_law_goes := by kernel_rfl
theorem sc_law_goes : FnScope (["mode", "sign", "m", "double", "den"] : List Str) (["mode", "sign", "m", "double", "den"] : List Str) (defScope st_law_goes) := ⟨rfl, rfl, rfl, by decide +kernel, rfl, by decide +kernel, by decide +kernel⟩
abbrev st_law_below : Stmt := top 78
theorem tr_law_below : trSs 60 (pin.if_ (["shape", "mode", "sign", "num", "den", "full_v", "far", "goes"] : List Str) []) (defScope st_law_below) (defBody st_law_below) = some ir_law_below := by kernel_rfl
theorem sc_law_below : FnScope (["shape", "mode", "sign", "num", "den", "full_v", "far", "goes"] : List Str) (["shape", "mode", "sign", "num", "den", "full_v"] : List Str) (defScope st_law_below) := ⟨rfl, rfl, rfl, by decide +kernel, rfl, by decide +kernel, by decide +kernel⟩
abbrev st_law_round : Stmt := top 79
theorem tr_law_round : trSs 60 (pin.if_ ((["shape", "mode", "above_v", "below_v", "sign", "base", "digits", "low", "high", "tiny", "own", "size", "top", "full_v", "e", "num", "den", "m", "left", "few"] : List Str) ++ (["flags"] : List Str)) []) (defScope st_law_round) (defBody st_law_round) = some ir_law_round := by kernel_rfl
theorem sc_law_round : FnScope ((["shape", "mode", "above_v", "below_v", "sign", "base", "digits", "low", "high", "tiny", "own", "size", "top", "full_v", "e", "num", "den", "m", "left", "few"] : List Str) ++ (["flags"] : List Str)) (["shape", "mode", "above_v", "below_v", "sign"] : List Str) (defScope st_law_round) := ⟨rfl, rfl, rfl, by decide +kernel, rfl, by decide +kernel, by decide +kernel⟩
abbrev st_law_exact : Stmt := top 80
theorem tr_law_exact : trSs 60 (pin.if_ (["shape", "value", "e"] : List Str) []) (defScope st_law_exact) (defBody st_law_exact) = some ir_law_exact := by kernel_rfl
theorem sc_law_exact : FnScope (["shape", "value", "e"] : List Str) (["shape", "value"] : List Str) (defScope st_law_exact) := ⟨rfl, rfl, rfl, by decide +kernel, rfl, by decide +kernel, by decide +kernel⟩
abbrev st_law_number : Stmt := top 82
theorem tr_law_number : trSs 60 (pin.if_ (["draws", "shape", "base", "digits", "low", "high", "tiny", "full_v", "e", "m"] : List Str) []) (defScope st_law_number) (defBody st_law_number) = some ir_law_number := by kernel_rfl
theorem sc_law_number : FnScope (["draws", "shape", "base", "digits", "low", "high", "tiny", "full_v", "e", "m"] : List Str) (["draws", "shape"] : List Str) (defScope st_law_number) := ⟨rfl, rfl, rfl, by decide +kernel, rfl, by decide +kernel, by decide +kernel⟩
abbrev st_law_fraction : Stmt := top 86
theorem tr_law_fraction : trSs 60 (pin.if_ (["draws", "a", "b", "k", "one", "two"] : List Str) []) (defScope st_law_fraction) (defBody st_law_fraction) = some ir_law_fraction := by kernel_rfl
theorem sc_law_fraction : FnScope (["draws", "a", "b", "k", "one", "two"] : List Str) (["draws"] : List Str) (defScope st_law_fraction) := ⟨rfl, rfl, rfl, by decide +kernel, rfl, by decide +kernel, by decide +kernel⟩
abbrev st_law_pick : Stmt := top 87
theorem tr_law_pick : trSs 60 (pin.if_ (["draws", "row"] : List Str) []) (defScope st_law_pick) (defBody st_law_pick) = some ir_law_pick := by kernel_rfl
theorem sc_law_pick : FnScope (["draws", "row"] : List Str) (["draws", "row"] : List Str) (defScope st_law_pick) := ⟨rfl, rfl, rfl, by decide +kernel, rfl, by decide +kernel, by decide +kernel⟩
abbrev st_law_key : Stmt := top 91
theorem tr_law_key : trSs 60 (pin.if_ (["shape", "value", "a", "b"] : List Str) []) (defScope st_law_key) (defBody st_law_key) = some ir_law_key := by kernel_rfl
theorem sc_law_key : FnScope (["shape", "value", "a", "b"] : List Str) (["shape", "value"] : List Str) (defScope st_law_key) := ⟨rfl, rfl, rfl, by decide +kernel, rfl, by decide +kernel, by decide +kernel⟩
abbrev st_law_le : Stmt := top 92
theorem tr_law_le : trSs 60 (pin.if_ (["shape", "one", "two", "first", "other"] : List Str) []) (defScope st_law_le) (defBody st_law_le) = some ir_law_le := by kernel_rfl
theorem sc_law_le : FnScope (["shape", "one", "two", "first", "other"] : List Str) (["shape", "one", "two"] : List Str) (defScope st_law_le) := ⟨rfl, rfl, rfl, by decide +kernel, rfl, by decide +kernel, by decide +kernel⟩
abbrev st_law_interval : Stmt := top 93
theorem tr_law_interval : trSs 60 (pin.if_ (["draws", "shape", "kind", "low", "high"] : List Str) []) (defScope st_law_interval) (defBody st_law_interval) = some ir_law_interval := by kernel_rfl
theorem sc_law_interval : FnScope (["draws", "shape", "kind", "low", "high"] : List Str) (["draws", "shape"] : List Str) (defScope st_law_interval) := ⟨rfl, rfl, rfl, by decide +kernel, rfl, by decide +kernel, by decide +kernel⟩
abbrev st_law_ends : Stmt := top 94
theorem tr_law_ends : trSs 60 (pin.if_ (["shape", "interval"] : List Str) []) (defScope st_law_ends) (defBody st_law_ends) = some ir_law_ends := by kernel_rfl
theorem sc_law_ends : FnScope (["shape", "interval"] : List Str) (["shape", "interval"] : List Str) (defScope st_law_ends) := ⟨rfl, rfl, rfl, by decide +kernel, rfl, by decide +kernel, by decide +kernel⟩
abbrev st_law_around : Stmt := top 95
theorem tr_law_around : trSs 60 (pin.if_ (["shape", "rows", "low", "high", "a", "b"] : List Str) []) (defScope st_law_around) (defBody st_law_around) = some ir_law_around := by kernel_rfl
theorem sc_law_around : FnScope (["shape", "rows", "low", "high", "a", "b"] : List Str) (["shape", "rows"] : List Str) (defScope st_law_around) := ⟨rfl, rfl, rfl, by decide +kernel, rfl, by decide +kernel, by decide +kernel⟩
abbrev st_law_made : Stmt := top 96
theorem tr_law_made : trSs 60 (pin.if_ (["shape", "word", "one", "two", "first", "other", "rows", "a", "b", "c", "d"] : List Str) [(523, 11)]) (defScope st_law_made) (defBody st_law_made) = some ir_law_made := by kernel_rfl
theorem sc_law_made : FnScope (["shape", "word", "one", "two", "first", "other", "rows", "a", "b", "c", "d"] : List Str) (["shape", "word", "one", "two"] : List Str) (defScope st_law_made) := ⟨rfl, rfl, rfl, by decide +kernel, rfl, by decide +kernel, by decide +kernel⟩
abbrev st_law_has : Stmt := top 97
theorem tr_law_has : trSs 60 (pin.if_ (["shape", "interval", "a", "b", "low", "high", "good"] : List Str) []) (defScope st_law_has) (defBody st_law_has) = some ir_law_has := by kernel_rfl
theorem sc_law_has : FnScope (["shape", "interval", "a", "b", "low", "high", "good"] : List Str) (["shape", "interval", "a", "b"] : List Str) (defScope st_law_has) := ⟨rfl, rfl, rfl, by decide +kernel, rfl, by decide +kernel, by decide +kernel⟩
abbrev st_law_alike : Stmt := top 98
theorem tr_law_alike : trSs 60 (pin.if_ (["shape", "one", "two", "k"] : List Str) []) (defScope st_law_alike) (defBody st_law_alike) = some ir_law_alike := by kernel_rfl
theorem sc_law_alike : FnScope (["shape", "one", "two", "k"] : List Str) (["shape", "one", "two"] : List Str) (defScope st_law_alike) := ⟨rfl, rfl, rfl, by decide +kernel, rfl, by decide +kernel, by decide +kernel⟩
abbrev st_law_k68 : Stmt := top 99
theorem tr_law_k68 : trSs 60 (pin.if_ ((["script", "draws", "turn", "shape", "one", "two", "a", "b", "c", "d", "told", "both", "whole", "within", "low", "high", "word", "first", "other", "p"] : List Str) ++ (["q", "third", "due", "bad", "words"] : List Str)) [(588, 12), (599, 20)]) (defScope st_law_k68) (defBody st_law_k68) = some ir_law_k68 := by kernel_rfl
theorem sc_law_k68 : FnScope ((["script", "draws", "turn", "shape", "one", "two", "a", "b", "c", "d", "told", "both", "whole", "within", "low", "high", "word", "first", "other", "p"] : List Str) ++ (["q", "third", "due", "bad", "words"] : List Str)) (["script"] : List Str) (defScope st_law_k68) := ⟨rfl, rfl, rfl, by decide +kernel, rfl, by decide +kernel, by decide +kernel⟩
abbrev st_oracle_of : Stmt := top 45
abbrev st_told_oracle_of : Stmt := (defBody st_oracle_of).getD 0 (.Pass ⟨0, 0, 0, 0⟩)
theorem tr_told_oracle_of : trSs 60 (pin.if_ (["exponent", "base", "number", "scaled", "m", "left"] : List Str) []) (C8.fnScope st_told_oracle_of) (C8.fnBody st_told_oracle_of) = some ir_told_oracle_of := by kernel_rfl
theorem sc_told_oracle_of : NdefX.NScope (["exponent", "base", "number", "scaled", "m", "left"] : List Str) (["exponent"] : List Str) (["base", "number"] : List Str) (C8.fnScope st_told_oracle_of) := NdefX.nscope_by (by decide +kernel)
theorem sc_oracle_of : FnScope (["base", "number", "told"] : List Str) (["base", "number"] : List Str) (defScope st_oracle_of) := ⟨rfl, rfl, rfl, by decide +kernel, rfl, by decide +kernel, by decide +kernel⟩
end U
section
set_option maxHeartbeats 1000000
namespace DL
open PySem PySem.Spec PyProof.Rows L2
/-! ### the head's facts -/
/-- the facts of a text: ns its callables' names; xms: which class takes which -/
def faOf (p : PI) (ns : List Str) (xms : List (Nat × Nat × Bool)) : List He.Fa :=
  ns.map .glo ++ (ns.map .keep ++ (p.free.map .free ++ (p.exs.map .glo ++ (p.exs.map .exc ++ xms.map fun e => .exm (p.exs.getD e.1 "") (p.exs.getD e.2.1 "") e.2.2))))
/-- the closures' kinds: nF: their words, nfr: what they capture -/
structure CloI where
  nF : Nat → List (Str × Addr) → Addr → NdefX.NF
  nfr : Nat → List Str
  tf : List He.Defn
  nmf : Nat → Nat → Str
def txOf (K : PySem.W.Frag) (p : PI) (cs : List Str) (q : CloI) : Tx :=
  { K := K, fA := fun j => He.ga K ((p.fns.map (·.1)).getD j ""), xA := fun j => He.ga K (p.exs.getD j ""), cA := fun j => He.ga K (cs.getD j ""), nF := q.nF, nfr := q.nfr, isN := fun j => decide ((p.fns.getD j ("", 0)).2 = 98), tabs := q.tf.map fun d => ((He.cT K d).2, q.nmf) }
def noCloI : CloI := ⟨fun _ _ c => ⟨"", "", default, [], default, [], c⟩, fun _ => [], [], fun _ _ => ""⟩
def xmOf (xms : List (Nat × Nat × Bool)) : Nat → Nat → Option Bool := fun i j => (xms.find? fun e => e.1 == i && e.2.1 == j).map (·.2.2)
/-! ### global data -/
mutual
def valB (K : PySem.W.Frag) : Value → D → Bool
  | u, .int i => match u with
    | .int j _ => decide (j = i)
    | _ => false
  | u, .bl b => match u with
    | .bool c => decide (c = b)
    | _ => false
  | u, .non => match u with
    | .none => true
    | _ => false
  | u, .str z => match u with
    | .str y _ => decide (y = z) && decide (z.length ≤ sizeLine)
    | _ => false
  | u, .tup ds => match u with
    | .ref a => match K.lookup a with
      | some ⟨c, _, .seq its _, _⟩ => decide (c = .type "tuple") && decide (its.size ≤ sizeLine) && valsB K its.toList ds
      | _ => false
    | _ => false
  | _, _ => false
def valsB (K : PySem.W.Frag) : List Value → List D → Bool
  | [], [] => true
  | u :: us, d :: ds => valB K u d && valsB K us ds
  | _, _ => false
end
mutual
theorem valB_ok {T : Tx} : ∀ {u : Value} {d : D}, valB T.K u d = true → ∃ v, RelV v u ∧ ∀ H, Den T H v d
  | u, .int i, h => by
    unfold valB at h
    split at h
    · rename_i j t
      have := of_decide_eq_true h
      subst this
      exact ⟨.int j, ⟨t, rfl⟩, fun _ => .int _⟩
    · cases h
  | u, .bl b, h => by
    unfold valB at h
    split at h
    · have := of_decide_eq_true h
      subst this
      exact ⟨.bl _, rfl, fun _ => .bl _⟩
    · cases h
  | u, .non, h => by
    unfold valB at h
    split at h
    · exact ⟨.non, rfl, fun _ => .non⟩
    · cases h
  | u, .str z, h => by
    unfold valB at h
    split at h
    · rename_i y t
      obtain ⟨h1, h2⟩ := Bool.and_eq_true_iff.mp h
      have := of_decide_eq_true h1
      subst this
      exact ⟨.str y, ⟨t, rfl⟩, fun _ => .str _ (of_decide_eq_true h2)⟩
    · cases h
  | u, .tup ds, h => by
    unfold valB at h
    split at h
    · rename_i a
      split at h
      · rename_i c od its n sl e
        obtain ⟨h12, h3⟩ := Bool.and_eq_true_iff.mp h
        obtain ⟨h1, h2⟩ := Bool.and_eq_true_iff.mp h12
        obtain ⟨vs, hv, hd⟩ := valsB_ok h3
        exact ⟨.ref a, rfl, fun H => .tup (.inr ⟨_, its, n, e, of_decide_eq_true h1, rfl, of_decide_eq_true h2, hv⟩) (hd H)⟩
      · cases h
    · cases h
  | u, .lst _, h => by unfold valB at h; cases h
  | u, .dic _ _, h => by unfold valB at h; cases h
  | u, .ref _, h => by unfold valB at h; cases h
  | u, .ty _, h => by unfold valB at h; cases h
  | u, .fn _, h => by unfold valB at h; cases h
  | u, .clo _ _, h => by unfold valB at h; cases h
theorem valsB_ok {T : Tx} : ∀ {us : List Value} {ds : List D}, valsB T.K us ds = true → ∃ vs, Vals vs us ∧ ∀ H, DenL T H vs ds
  | [], [], _ => ⟨[], .nil, fun _ => .nil⟩
  | u :: us, d :: ds, h => by
    unfold valsB at h
    obtain ⟨h1, h2⟩ := Bool.and_eq_true_iff.mp h
    obtain ⟨v, r, hd⟩ := valB_ok h1
    obtain ⟨vs, rs, hds⟩ := valsB_ok h2
    exact ⟨v :: vs, .cons r rs, fun H => .cons (hd H) (hds H)⟩
  | [], _ :: _, h => by unfold valsB at h; cases h
  | _ :: _, [], h => by unfold valsB at h; cases h
end
/-- the text's global data stands as told -/
def glbB (l : List (Str × D)) (K : PySem.W.Frag) : Bool := l.all fun e => match PySem.W.nsIn K mainGlobals e.1 with
  | some (some u) => valB K u e.2
  | _ => false
section
variable {fa : List He.Fa} {fn : List He.DefD} {K : PySem.W.Frag} {h : Heap} {mg : Str → Option Value} {p : PI} {ns cs : List Str} {xms : List (Nat × Nat × Bool)} {q : CloI}
theorem fact_mem (c : He.SaysD fa fn K) {f : He.Fa} (h : f ∈ fa) : f.ok K = true := by
  obtain ⟨i, e⟩ := List.mem_iff_getElem?.mp h
  exact c.fact i e
theorem pok_of (X : K.In h) (G : h.Ns mainGlobals mg) (c : He.SaysD (faOf p ns xms) fn K) (hn : ∀ x n, (x, n) ∈ p.fns → n ≠ 98 → x ∈ ns) (hg : glbB p.glb K = true) : Pok mg (txOf K p cs q) p (xmOf xms) := by
  have fnm : ∀ j x n, p.fns[j]? = some (x, n) → n ≠ 98 → (txOf K p cs q).fA j = He.ga K x ∧ x ∈ ns := fun j x n e h98 => by
    have e2 : (p.fns.map (·.1))[j]? = some x := by rw [List.getElem?_map, e]; rfl
    refine ⟨?_, hn x n (List.mem_of_getElem? e) h98⟩
    show He.ga K ((p.fns.map (·.1)).getD j "") = _
    rw [List.getD_eq_getElem?_getD, e2]; rfl
  have xmm : ∀ j x, p.exs[j]? = some x → p.exs.getD j "" = x := fun j x e => by rw [List.getD_eq_getElem?_getD, e]; rfl
  refine { fns := ?_, kp := ?_, free := ?_, glb := ?_, exc := ?_, xm := ?_ }
  · intro j x n e h98
    obtain ⟨e1, e2⟩ := fnm j x n e h98
    rw [e1]
    exact ⟨by show decide ((p.fns.getD j ("", 0)).2 = 98) = false; rw [List.getD_eq_getElem?_getD, e]; exact decide_eq_false h98, He.glo_ok X G (fact_mem c (by simp [faOf, e2]))⟩
  · intro j x n e h98
    obtain ⟨e1, e2⟩ := fnm j x n e h98
    rw [e1]
    exact He.keep_ok (fact_mem c (by simp [faOf, e2]))
  · intro x e
    exact He.free_ok X G (fact_mem c (by simp [faOf, e]))
  · intro x d e
    have z := List.all_eq_true.mp hg (x, d) e
    simp only at z
    split at z
    · rename_i u eu
      obtain ⟨v, r, hd⟩ := valB_ok (T := txOf K p cs q) z
      exact ⟨u, v, PySem.W.mg_of X G eu, r, hd⟩
    · cases z
  · intro j x e
    have hx : x ∈ p.exs := List.mem_of_getElem? e
    have q1 : (txOf K p cs q).xA j = He.ga K x := by show He.ga K (p.exs.getD j "") = _; rw [xmm j x e]
    rw [q1]
    obtain ⟨a, b, c', d⟩ := He.exc_ok (x := x) (fact_mem c (by simp [faOf, hx]))
    exact ⟨a, He.glo_ok X G (fact_mem c (by simp [faOf, hx])), b, c', d⟩
  · intro i j k e
    unfold xmOf at e
    cases q : xms.find? fun e => e.1 == i && e.2.1 == j with
    | none => rw [q] at e; cases e
    | some t =>
      rw [q] at e
      cases e
      have h1 := List.find?_some q
      have h2 := List.mem_of_find?_eq_some q
      simp at h1
      obtain ⟨rfl, rfl⟩ := h1
      exact He.exm_ok (fact_mem c (by unfold faOf; simp only [List.mem_append, List.mem_map]; exact .inr (.inr (.inr (.inr (.inr ⟨t, h2, rfl⟩))))))
end
/-! ### one def behind another -/
section
variable {P : Program} {w : World} {mg : Str → Option Value} {base : Heap} {T : Tx} {p : PI} {xm : Nat → Nat → Option Bool} {Γ : List DSp} {k : Nat}
def GOk (P : Program) (w : World) (mg : Str → Option Value) (base : Heap) (T : Tx) (k : Nat) (Γ : List DSp) : Prop := ∀ j φ, Γ[j]? = some φ → AnyK P w mg base T k j φ
theorem AnyK.mono {i j : Nat} {φ : DSp} (h : AnyK P w mg base T i j φ) (l : i ≤ k) : AnyK P w mg base T k j φ := ⟨fun z => (h.1 z).mono l, fun z => (h.2 z).mono l⟩
theorem GOk.nil : GOk P w mg base T k [] := fun j φ e => by simp at e
theorem GOk.mono {k' : Nat} (G : GOk P w mg base T k Γ) (l : k ≤ k') : GOk P w mg base T k' Γ := fun j φ e => (G j φ e).mono l
theorem GOk.snocA {φ : DSp} (G : GOk P w mg base T k Γ) (c : AnyK P w mg base T (k + 1) Γ.length φ) : GOk P w mg base T (k + 1) (Γ ++ [φ]) := fun j ψ e => by
  by_cases h : j < Γ.length
  · rw [List.getElem?_append_left h] at e
    exact (G j ψ e).mono (Nat.le_succ k)
  · rw [List.getElem?_append_right (by omega)] at e
    have : j - Γ.length = 0 := by
      have := (List.getElem?_eq_some_iff.mp e).1
      simp at this; omega
    rw [this] at e
    cases e
    have : j = Γ.length := by omega
    rw [this]; exact c
theorem GOk.snoc {φ : DSp} (G : GOk P w mg base T k Γ) (hl : T.isN Γ.length = false) (c : CalK P w mg base T (k + 1) (T.fA Γ.length) φ) : GOk P w mg base T (k + 1) (Γ ++ [φ]) := G.snocA ⟨fun _ => c, fun z => (by rw [hl] at z; cases z)⟩
theorem GOk.snocN {φ : DSp} (G : GOk P w mg base T k Γ) (hl : T.isN Γ.length = true) (c : CloK P w mg base T (k + 1) Γ.length φ) : GOk P w mg base T (k + 1) (Γ ++ [φ]) := G.snocA ⟨fun z => (by rw [hl] at z; cases z), fun _ => c⟩
/-- nothing is promised of the number -/
theorem GOk.fill {m : Nat} (G : GOk P w mg base T k Γ) (c : ∀ j, AnyK P w mg base T k j fun _ _ _ _ => False) : GOk P w mg base T k (Γ ++ List.replicate m fun _ _ _ _ => False) := fun j ψ e => by
  by_cases h : j < Γ.length
  · rw [List.getElem?_append_left h] at e
    exact G j ψ e
  · rw [List.getElem?_append_right (by omega), List.getElem?_replicate] at e
    split at e
    · cases e; exact c j
    · cases e
theorem CalK.weak {f : Addr} {φ φ' : DSp} (h : CalK P w mg base T k f φ) (i : ∀ l M Q E, φ' l M Q E → φ l M Q E) : CalK P w mg base T k f φ' := by
  obtain ⟨fd, ps, us, dvs, dd, φ0, F, b, v, d, hl, hφ, kp⟩ := h
  exact ⟨fd, ps, us, dvs, dd, φ0, F, b, v, d, fun l M Q E q => hl l M Q E (i l M Q E q), fun l M Q E q => hφ l M Q E (i l M Q E q), kp⟩
variable {x : Str} {st : Stmt} {fd : FuncData} {f : Addr} {N ps : List Str} {mls : List (Nat × Nat)} {n : Nat} {ir : Srs} {φ : DSp}
/-- a def without defaults -/
theorem cal_D (Pk : Pok mg T p xm) (G : GOk P w mg base T k Γ) (F : FunD T.K x x (defArgs st) (defBody st) (defScope st) [] [] f fd) (S : FnScope N ps (defScope st)) (tr : trSs n (p.if_ N mls) (defScope st) (defBody st) = some ir)
    (b : ∀ (kV doc pm : Value) (an : Option Addr) (cdv ct : Value) (us : List Value), us.length = ps.length → bindArgs (PySem.W.fnOf x x (defArgs st) (defBody st) (defScope st) .none kV doc pm an cdv ct) ⟨us, []⟩ = pure (ps.zip us))
    (hl : ∀ l M Q E, φ l M Q E → l.length = ps.length) (h : ∀ ds M Q E, φ ds M Q E → dSs Γ xm ir (endW E) (endS Q) (startD N.length ds) M) : CalK P w mg base T (k + 1) f φ :=
  CalK.all (fn_D F S Pk G tr fun ds M Q E q _ => h ds M Q E q) (F.bindsN b) F.kp hl
/-- a def with defaults, j of them left out: n values given -/
theorem cal_DD {dvs : List V} {dd : List D} {φ0 : DSp} (m j : Nat) (Pk : Pok mg T p xm) (G : GOk P w mg base T k Γ) (F : FunD T.K x x (defArgs st) (defBody st) (defScope st) dvs [] f fd) (S : FnScope N ps (defScope st)) (tr : trSs n (p.if_ N mls) (defScope st) (defBody st) = some ir)
    (hd : dvs ≠ []) (hm : m + (dvs.length - j) = ps.length) (b : ∀ (D : Addr) (kV doc pm : Value) (an : Option Addr) (cdv ct : Value) (us its : List Value), us.length = m → its.length = dvs.length →
      ∃ k, bindArgs (PySem.W.fnOf x x (defArgs st) (defBody st) (defScope st) (.ref D) kV doc pm an cdv ct) ⟨us, []⟩ = seqItems? (.ref D) >>= k ∧ k (some its.toArray) = pure (ps.zip (us ++ its.drop j)))
    (dn : ∀ H, DenL T H (dvs.drop j) dd) (hl : ∀ l M Q E, φ l M Q E → l.length = m) (hφ : ∀ l M Q E, φ l M Q E → φ0 (l ++ dd) M Q E) (h : ∀ ds M Q E, φ0 ds M Q E → dSs Γ xm ir (endW E) (endS Q) (startD N.length ds) M) : CalK P w mg base T (k + 1) f φ := by
  obtain ⟨us, hv, hb⟩ := F.binds1 m j hd hm b
  exact ⟨fd, ps, us, dvs.drop j, dd, φ0, fn_D F S Pk G tr fun ds M Q E q _ => h ds M Q E q, hb, hv, dn, fun l M Q E q => by rw [hl l M Q E q, List.length_drop]; exact hm, hφ, F.kp⟩
end
/-! ### the end -/
/-- what a call may let out, whatever the text and the world -/
def CXE : CXT := fun outer H s E u s' => ∃ P w, L2.CX P w outer H s E u s'
theorem CXE.no (H : Hp) (s : Shared) (e : Value) (s' : Shared) (h : CXE [] H s (fun _ _ _ => False) e s') : False := by
  obtain ⟨P, w, a, B, H', cls, d, _, _, _, _, _, _, _, z⟩ := h
  exact z
theorem fn_any {P : Program} {w : World} {K : PySem.W.Frag} {mg : Str → Option Value} {base : Heap} {k : Nat} {f : Addr} {fd : FuncData} {ps : List Str} {sp : Sp} (F : FnOk P w K mg base (L2.CX P w) k f fd ps sp) : FnOk P w K mg base CXE k f fd ps sp :=
  ⟨F.len, fun A outer s H args us vs Q E hr he hb hv hs => codeAny_mono (F.run A outer s H args us vs Q E hr he hb hv hs) fun r s' c => by
    unfold CR at c ⊢
    split at c
    · exact c
    · exact c
    · exact ⟨P, w, c⟩⟩
/-- a law's contract -/
def φ_law : DSp := fun l M Q _ => ∃ (ns : List Int) (d : D), ns.length ≤ 63 ∧ l = [d] ∧ sqM M d = some (ns.map .int) ∧ ∀ M', Q (.bl true) M'
theorem den_ints {T : Tx} {H : Hp} : ∀ ns : List Int, DenL T H (ns.map V.int) (ns.map D.int)
  | [] => .nil
  | n :: ns => .cons (.int n) (den_ints ns)
theorem law_sp {T : Tx} {H : Hp} {a : Addr} {ns : List Int} (hl : ns.length ≤ 63) (tb : NdefX.TabsN T.tabs H) (hs : SqL T.K H a (ns.map V.int)) : liftSp T 1 φ_law [.ref a] H (fun v _ => v = .bl true) fun _ _ _ => False := by
  have fin : ∀ (v : V) (H' : Hp) (d : D) (M' : Mem), Stb H H' → MemOk T H' M' → Den T H' v d → d = .bl true → v = .bl true := fun v H' d M' _ _ hd e => by
    subst e
    cases hd
    rfl
  have old : FzL T.K H a (ns.map V.int) → liftSp T 1 φ_law [.ref a] H (fun v _ => v = .bl true) fun _ _ _ => False := fun hf =>
    ⟨[.lst (ns.map .int)], Mem.none, fun d _ => d = .bl true, fun _ _ _ => False, rfl, .cons (.lst hf (den_ints ns)) .nil, MemOk.none tb, ⟨ns, _, hl, rfl, rfl, fun _ => rfl⟩, fin, fun _ _ _ _ _ _ _ _ z => z⟩
  rcases hs with (h | ⟨o, h⟩) | h
  · refine ⟨[.ref a], Mem.none.put a (.lst (ns.map .int)), fun d _ => d = .bl true, fun _ _ _ => False, rfl, .cons (.ref a) .nil, ⟨fun b o e => ?_, tb⟩, ⟨ns, _, hl, rfl, ?_, fun _ => rfl⟩, fin, fun _ _ _ _ _ _ _ _ z => z⟩
    · by_cases hb : b = a
      · subst hb
        rw [Mem.put_same] at e
        cases e
        exact ⟨_, h, den_ints ns⟩
      · rw [Mem.put_ne hb] at e
        cases e
    · show (match (Mem.none.put a (.lst (ns.map .int))) a with
        | some (.lst ds) => some ds
        | _ => none) = _
      rw [Mem.put_same]
  · exact old (.inl ⟨o, h⟩)
  · exact old (.inr h)
theorem tabs_new {K : PySem.W.Frag} {p : PI} {cs : List Str} {q : CloI} {H : Hp} (h : ∀ e ∈ q.tf.map (He.cT K), H e.2 = some (.tbl #[])) : NdefX.TabsN (txOf K p cs q).tabs H := fun e he => by
  obtain ⟨d, hd, rfl⟩ := List.mem_map.mp he
  exact NdefX.TabN.nil (h _ (List.mem_map.mpr ⟨d, hd, rfl⟩))
/-- a law: the written part is found by the head -/
theorem walk_X {l : PySem.W.OpenLaw} {n k : Nat} {q : Program} {loose : List Str} {XP : (Str → Option Value) → Heap → Prop} {YP : World → Heap → Prop} {d : DefRec} {x : Str} (hn : l.most = some n) (hn2 : n ≤ sizeLine) (hdf : d.params.defaults = []) (hr : Room k callerA)
    (F : ∀ (w : World) (mg : Str → Option Value) (fa : Addr) (h : Heap), YP w h → h.Ns mainGlobals mg → mg d.name = some (.ref fa) → ∃ K : PySem.W.Frag, K.In h ∧ LamX.LawAtS l w K CXE k n x mg fa h) :
    PySem.W.WalkO q loose XP YP l.row.toRowW d [] (fun f vs => PySem.call f vs) := by
  refine Att.attach_callB hn hdf fun w s₀ s₁ mg mb fa o pm cd doc a vs ns G Y ho hd hcd hmg hobj hints hlen hbits hg => ?_
  obtain ⟨K, KX, fd, cs, sp, t1, t2, t3, hb, hsp, hF⟩ := F w mg fa _ Y G.T.g hmg
  exact LamX.law_callTs KX G.T.g G.T.b G.T.builtins G.T.nolimit hg t1 t2 t3 G.T.bmain hobj hints (Nat.le_trans hlen hn2) hr hF hb (fun H hH hS => hsp H a ns hlen hbits hH hS) fun H e s' c => CXE.no _ _ _ _ c
end DL
end
section
set_option maxHeartbeats 0
namespace U
open PySem PySem.Spec PyProof.Rows L2 DL
def nms : List Str := ((["law", "is_whole", "shared", "fraction", "plus", "times", "over", "against", "order", "below", "at_most", "least_of", "most_of", "floor", "power", "raised", "digits_in", "is_format", "look_at_format", "is_mode"] : List Str) ++ (["look_at_mode", "full", "above", "how_many", "is_value", "look_at_value", "exact", "rank", "compared", "is_finite", "oracle_of", "goes_up", "beyond", "put", "put_low", "rounded", "ends", "sum_range", "turned_range", "product_range"] : List Str) ++ (["has_nought", "quotient_range", "is_interval", "look_at_interval", "whole_line", "around", "has", "range_in", "met", "hull", "is_inside", "made", "ranged", "_law_draws", "_law_draw", "_law_same", "_law_raise", "_law_format", "_law_goes", "_law_below"] : List Str) ++ (["_law_round", "_law_exact", "_law_number", "_law_fraction", "_law_pick", "_law_key", "_law_le", "_law_interval", "_law_ends", "_law_around", "_law_made", "_law_has", "_law_alike"] : List Str))
def xms : List (Nat × Nat × Bool) := [(0, 0, true)]
def dd (x : Str) (i : Nat) (dfl : List He.Dv := []) : He.DefD := ⟨(x, none), x, x, defArgs (top i), defBody (top i), defScope (top i), dfl, []⟩
def fn : List He.DefD := ([dd "is_whole" 6, dd "shared" 7, dd "fraction" 8 [.int 1], dd "plus" 9, dd "times" 10, dd "over" 11, dd "against" 12, dd "order" 13, dd "below" 14, dd "at_most" 15, dd "least_of" 16, dd "most_of" 17, dd "floor" 18, dd "power" 19, dd "raised" 20, dd "digits_in" 21, dd "is_format" 26, dd "look_at_format" 27, dd "is_mode" 28, dd "look_at_mode" 29] : List He.DefD) ++ ([dd "full" 30, dd "above" 31, dd "how_many" 32, dd "is_value" 34, dd "look_at_value" 35, dd "exact" 36, dd "rank" 37, dd "compared" 38, dd "is_finite" 39, dd "oracle_of" 45, dd "goes_up" 46, dd "beyond" 47, dd "put" 48, dd "put_low" 49, dd "rounded" 50 [.int 1], dd "ends" 52, dd "sum_range" 53, dd "turned_range" 54, dd "product_range" 55, dd "has_nought" 56] : List He.DefD) ++ ([dd "quotient_range" 57, dd "is_interval" 59, dd "look_at_interval" 60, dd "whole_line" 61, dd "around" 62, dd "has" 63, dd "range_in" 64, dd "met" 65, dd "hull" 66, dd "is_inside" 67, dd "made" 68, dd "ranged" 69, dd "_law_draws" 71, dd "_law_draw" 72, dd "_law_same" 73, dd "_law_raise" 74, dd "_law_format" 75, dd "_law_goes" 77, dd "_law_below" 78, dd "_law_round" 79] : List He.DefD) ++ ([dd "_law_exact" 80, dd "_law_number" 82, dd "_law_fraction" 86, dd "_law_pick" 87, dd "_law_key" 91, dd "_law_le" 92, dd "_law_interval" 93, dd "_law_ends" 94, dd "_law_around" 95, dd "_law_made" 96, dd "_law_has" 97, dd "_law_alike" 98, dd "law" 99] : List He.DefD)
abbrev fa : List He.Fa := faOf pin nms xms
def clo : CloI := ⟨fun j cl c => if j = 45 then NdefX.NF.of st_told_oracle_of "told" "oracle_of.<locals>.told" cl c else ⟨"", "", default, [], default, [], c⟩, fun j => if j = 45 then (["base", "number"] : List Str) else [], [("oracle_of", none)], fun _ _ => "oracle_of.<locals>.told"⟩
def ex (K : PySem.W.Frag) : Bool := glbB pin.glb K
abbrev R : PySem.W.OpenRow := PySem.W.OpenLaw.row PySem.Challenge.rw_roundonce_k68_whole_intervals_of_values
abbrev hk : PySem.W.Hook := He.hookX 2 fa fn [] clo.tf ex
def ob (s : PySem.W.SharedT) : He.AlX := He.obsX 2 fa fn [] clo.tf ex (HandSHeadRun.getT s)
theorem ob_eq (s : PySem.W.SharedT) : ob s = hk.obs s.abs := He.obsX_eq (HandSHeadRun.getT_eq s)
def loose : List Str := ((["RoundError", "BadFormat", "BadPlan", "NOUGHT", "is_whole", "shared", "fraction", "plus", "times", "over", "against", "order", "below", "at_most", "least_of", "most_of", "floor", "power", "raised", "digits_in"] : List Str) ++ (["MOST_DIGITS", "MOST_EXPONENT", "MODES", "is_format", "look_at_format", "is_mode", "look_at_mode", "full", "above", "how_many", "is_value", "look_at_value", "exact", "rank", "compared", "is_finite", "NOTHING", "LESS", "HALF", "MORE"] : List Str) ++ (["oracle_of", "goes_up", "beyond", "put", "put_low", "rounded", "ends", "sum_range", "turned_range", "product_range", "has_nought", "quotient_range", "is_interval", "look_at_interval", "whole_line", "around", "has", "range_in", "met", "hull"] : List Str) ++ (["is_inside", "made", "ranged", "_law_draws", "_law_draw", "_law_same", "_law_raise", "_law_format", "_law_mode", "_law_goes", "_law_below", "_law_round", "_law_exact", "_law_value", "_law_number", "_law_sum", "_law_due", "_law_into", "_law_fraction", "_law_pick"] : List Str) ++ (["_law_wide", "_law_numbers", "_law_part", "_law_key", "_law_le", "_law_interval", "_law_ends", "_law_around", "_law_made", "_law_has", "_law_alike"] : List Str))
theorem run (w : World) : HandSHeadRun.RunEq R (PySem.W.view R.prog [99]) hk ob 12000 loose w := by
  intro os
  kernel_rfl
end U
end
namespace U
open PySem PySem.Spec PyProof.Rows L2 DL
/-! ### sizes -/
theorem bits_le {a : Int} {m : Nat} (h : a.natAbs < 2 ^ m) : Builtin.Int.intBits a ≤ m := by
  unfold Builtin.Int.intBits
  split
  · exact Nat.zero_le _
  · rename_i h0
    have : a.natAbs ≠ 0 := by simpa using h0
    have := (Nat.log2_lt this).mpr h
    omega
theorem mulOk {a b : Int} {m n : Nat} (ha : a.natAbs < 2 ^ m) (hb : b.natAbs < 2 ^ n) (h : m + n ≤ 134217728) : IntMulOk a b := mulOk_of_bits (bits_le ha) (bits_le hb) h
theorem cdv {i j : Int} (h : j ≠ 0) (hs : j.natAbs < 2 ^ 9000) : CDv i j := by
  refine ⟨h, ?_⟩
  unfold Builtin.divisionGoesByPylong
  have h0 : j.natAbs ≠ 0 := by omega
  have := (Nat.log2_lt h0).mpr hs
  have h2 : (j == 0) = false := by simpa using h
  simp only [h2]
  have : ¬ (300 < j.natAbs.log2 / 30 + 1) := by omega
  simp [this]
theorem pow_mono {m n k : Nat} (h : k < 2 ^ m) (l : m ≤ n) : k < 2 ^ n := Nat.lt_of_lt_of_le h (Nat.pow_le_pow_right (by decide) l)
theorem mul_lt {a b m n : Nat} (ha : a < 2 ^ m) (hb : b < 2 ^ n) : a * b < 2 ^ (m + n) := by
  rw [Nat.pow_add]
  exact Nat.mul_lt_mul'' ha hb
/-! ### fractions -/
def rt (q : Rat) : D := .tup [.int q.num, .int q.den]
theorem rt_inj {p q : Rat} : rt p = rt q ↔ p = q := by
  constructor
  · intro h
    unfold rt at h
    injection h with h
    injection h with h1 h2
    injection h1 with h1
    injection h2 with h2 _
    injection h2 with h2
    exact Rat.ext h1 (by omega)
  · rintro rfl; rfl
def Sz (n : Nat) (q : Rat) : Prop := q.num.natAbs < 2 ^ n ∧ q.den < 2 ^ n
theorem Sz.mono {m n : Nat} {q : Rat} (h : Sz m q) (l : m ≤ n) : Sz n q := ⟨pow_mono h.1 l, pow_mono h.2 l⟩
/-- where the data is a fraction -/
def onR (p : Rat → Prop) (d : D) : Prop := ∃ q, d = rt q ∧ p q
@[simp] theorem onR_rt {p : Rat → Prop} {q : Rat} : onR p (rt q) = p q := propext ⟨fun ⟨r, e, h⟩ => by rw [rt_inj] at e; rw [e]; exact h, fun h => ⟨q, rfl, h⟩⟩
theorem divInt_red {a : Int} {b : Nat} (h : 0 < b) (g : Int.gcd a b = 1) : (Rat.divInt a b).num = a ∧ (Rat.divInt a b).den = b := by
  have e : Rat.divInt a b = ⟨a, b, by omega, g⟩ := by
    rw [← Rat.num_divInt_den ⟨a, b, by omega, g⟩]
  rw [e]; exact ⟨rfl, rfl⟩
theorem rt_lit {a : Int} {b : Nat} (h : 0 < b) (g : Int.gcd a b = 1) : D.tup [.int a, .int b] = rt (Rat.divInt a b) := by
  unfold rt; rw [(divInt_red h g).1, (divInt_red h g).2]
theorem rt_01 : D.tup [.int 0, .int 1] = rt 0 := rfl
theorem rt_int (n : Int) : D.tup [.int n, .int 1] = rt (n : Rat) := rfl
section
variable {M : Mem} {Q : QD} {q : Rat}
@[simp] theorem idx_rt0 : wIdx (rt q) (.int 0) M Q = Q (.int q.num) M := rfl
@[simp] theorem idx_rt1 : wIdx (rt q) (.int 1) M Q = Q (.int q.den) M := rfl
@[simp] theorem len_rt : wBlt .len [rt q] M Q = Q (.int 2) M := rfl
@[simp] theorem ty_rt : tyM M (rt q) = some "tuple" := rfl
@[simp] theorem sq_rt : sqM M (rt q) = some [.int q.num, .int q.den] := rfl
@[simp] theorem non_rt : isNon (rt q) = false := rfl
end
/-- the signed quotient by the common divisor -/
theorem quo_divInt {a b g : Int} (hb : b ≠ 0) (hg : g = if b < 0 then -(Int.gcd a b : Int) else Int.gcd a b) : D.tup [.int (a.fdiv g), .int (b.fdiv g)] = rt (Rat.divInt a b) := by
  have hp : 0 < Int.gcd a b := Int.gcd_pos_of_ne_zero_right a hb
  have da : (Int.gcd a b : Int) ∣ a := Int.gcd_dvd_left a b
  have db : (Int.gcd a b : Int) ∣ b := Int.gcd_dvd_right a b
  have ga : g ∣ a := by rw [hg]; split <;> simp [da]
  have gb : g ∣ b := by rw [hg]; split <;> simp [db]
  have gn : g ≠ 0 := by rw [hg]; split <;> omega
  have gna : g.natAbs = Int.gcd a b := by rw [hg]; split <;> omega
  have sg : (0 < b ∧ 0 < g) ∨ (b < 0 ∧ g < 0) := by
    rw [hg]; split
    · right; omega
    · left; omega
  obtain ⟨u, hu⟩ := ga
  obtain ⟨v, hv⟩ := gb
  have e1 : a.fdiv g = u := by rw [hu]; exact Int.mul_fdiv_cancel_left _ gn
  have e2 : b.fdiv g = v := by rw [hv]; exact Int.mul_fdiv_cancel_left _ gn
  rw [e1, e2]
  have vpos : 0 < v := by
    rcases sg with ⟨h1, h2⟩ | ⟨h1, h2⟩
    · rw [hv] at h1
      exact Int.pos_of_mul_pos_right h1 h2
    · rw [hv] at h1
      rcases Int.lt_trichotomy v 0 with q | q | q
      · have := Int.mul_pos_of_neg_of_neg h2 q; omega
      · rw [q] at h1; simp at h1
      · exact q
  have gc : Int.gcd u v = 1 := by
    have h1 : Int.gcd a b = g.natAbs * Int.gcd u v := by rw [hu, hv, Int.gcd_mul_left]
    rw [gna] at h1
    exact (Nat.eq_of_mul_eq_mul_left hp (by omega))
  obtain ⟨n, rfl⟩ := Int.eq_ofNat_of_zero_le (Int.le_of_lt vpos)
  have e3 : Rat.divInt a b = Rat.divInt u n := (Rat.divInt_eq_divInt_iff hb (by omega)).mpr (by rw [hu, hv]; grind)
  rw [e3]
  exact rt_lit (by omega) gc
theorem divInt_sz {a b : Int} {n : Nat} (hb : b ≠ 0) (h1 : a.natAbs < 2 ^ n) (h2 : b.natAbs < 2 ^ n) : Sz n (Rat.divInt a b) := by
  constructor
  · rw [Rat.num_divInt]
    refine Nat.lt_of_le_of_lt ?_ h1
    have := Int.natAbs_ediv_le_natAbs (b.sign * a) (b.gcd a : Int)
    refine Nat.le_trans this ?_
    rw [Int.natAbs_mul, Int.natAbs_sign_of_ne_zero hb]
    omega
  · rw [Rat.den_divInt, if_neg hb]
    exact Nat.lt_of_le_of_lt (Nat.div_le_self _ _) h2
end U
section
set_option maxHeartbeats 2000000
namespace U
open PySem PySem.Spec PyProof.Rows L2 DL
theorem ends_rt {Q : QD} {d : D} {M : Mem} (h : Q d M) : (endS Q).rt d M := ⟨M, M.le_refl, h⟩
theorem ends_nx {Q : QD} {δ : Ev} {M : Mem} (h : Q .non M) : (endS Q).nx δ M := ⟨M, M.le_refl, h⟩
theorem ends_w {E : XD} {j : Nat} {fs : List (Str × D)} {δ : Ev} {M : Mem} (h : E j fs M) : endW E j fs δ M := ⟨M, M.le_refl, h⟩
/-- whether a value is a whole number -/
def whD : D → Option Bool
  | .int _ => some true
  | .non => some false
  | .bl _ => some false
  | .str _ => some false
  | .tup _ => some false
  | .lst _ => some false
  | _ => none
section
variable {u : Int} {k : Bool} {s : Str} {xs : List D} {q : Rat}
@[simp] theorem wh_int : whD (.int u) = some true := rfl
@[simp] theorem wh_non : whD .non = some false := rfl
@[simp] theorem wh_bl : whD (.bl k) = some false := rfl
@[simp] theorem wh_str : whD (.str s) = some false := rfl
@[simp] theorem wh_tup : whD (.tup xs) = some false := rfl
@[simp] theorem wh_lst : whD (.lst xs) = some false := rfl
@[simp] theorem wh_rt : whD (rt q) = some false := rfl
end
def φF : DSp := fun _ _ _ _ => False
def φ_is_whole : DSp := fun l M Q _ => match l with
  | [d] => opt (whD d) fun b => Q (.bl b) M
  | _ => False
def φ_shared : DSp := fun l M Q _ => match l with
  | [.int a, .int b] => Q (.int (Int.gcd a b : Nat)) M
  | _ => False
section
variable {Γ : List DSp} {xm : Nat → Nat → Option Bool} {ds : List D} {M : Mem} {Q : QD} {E : XD}
theorem b_is_whole (h : φ_is_whole ds M Q E) : dSs Γ xm ir_is_whole (endW E) (endS Q) (startD 1 ds) M := by
  unfold φ_is_whole at h
  split at h
  · rename_i d
    cases d <;> simp only [whD, opt_s, opt_n] at h <;> (unfold ir_is_whole; simp [startD, kit_t1, kit_t2, kit_t3]; exact ends_rt h)
  · exact h.elim
@[simp] theorem is_whole_s {d : D} : φ_is_whole [d] M Q E = opt (whD d) fun b => Q (.bl b) M := rfl
@[simp] theorem shared_s {a b : Int} : φ_shared [.int a, .int b] M Q E = Q (.int (Int.gcd a b : Nat)) M := rfl
theorem gcd_step {a b : Int} (ha : 0 ≤ a) (hb : 0 < b) : Int.gcd b (a.fmod b) = Int.gcd a b := by
  rw [Int.fmod_eq_emod_of_nonneg _ (Int.le_of_lt hb), Int.gcd_comm a b]
  obtain ⟨m, rfl⟩ := Int.eq_ofNat_of_zero_le ha
  obtain ⟨n, rfl⟩ := Int.eq_ofNat_of_zero_le (Int.le_of_lt hb)
  show Nat.gcd n (m % n) = Nat.gcd n m
  rw [Nat.gcd_comm n (m % n), ← Nat.gcd_rec]
/-- the loop by which a common divisor is found -/
theorem euclid {u v : Int} (hu : 0 ≤ u) (hv : 0 ≤ v) {Dn : En} {st : Int → Int → Ev} {c : WpT} {b : WpS}
    (hc : ∀ x y QT, QT (decide (y ≠ 0)) M → c (st x y) M QT) (hb : ∀ x y E, y ≠ 0 → E.nx (st y (x.fmod y)) M → b E (st x y) M) (h : Dn.nx (st (Int.gcd u v : Nat) 0) M) : whlGo c b Dn (st u v) M := by
  refine ⟨fun n δ M' => ∃ x y : Int, n = y.toNat ∧ 0 ≤ x ∧ 0 ≤ y ∧ Int.gcd x y = Int.gcd u v ∧ δ = st x y ∧ M' = M, ⟨_, u, v, rfl, hu, hv, rfl, rfl, rfl⟩, ?_⟩
  rintro n δ M' ⟨x, y, rfl, hx, hy, e, rfl, rfl⟩
  apply hc
  by_cases h0 : y = 0
  · subst h0
    have : x = (Int.gcd u v : Nat) := by rw [← e, Int.gcd_zero_right]; omega
    rw [← this] at h
    simpa using h
  · rw [if_pos (by simpa using h0)]
    refine hb _ _ _ h0 ⟨_, ?_, _, _, rfl, hy, Int.fmod_nonneg_of_pos _ (by omega), ?_, rfl, rfl⟩
    · have := Int.fmod_lt_of_pos x (show 0 < y by omega)
      have := Int.fmod_nonneg_of_pos x (show 0 < y by omega)
      omega
    · rw [gcd_step hx (by omega), e]
theorem gcd_abs (a b : Int) : Int.gcd (if a < 0 then -a else a) (if b < 0 then -b else b) = Int.gcd a b := by
  split <;> split <;> simp
theorem b_shared (h : φ_shared ds M Q E) : dSs Γ xm ir_shared (endW E) (endS Q) (startD 2 ds) M := by
  unfold φ_shared at h
  split at h
  · rename_i a b
    unfold ir_shared
    simp [startD, s_whl]
    refine euclid (st := fun x y => [some (.int x), some (.int y)]) (by split <;> omega) (by split <;> omega) ?_ ?_ ?_
    · intro x y QT hq
      unfold ir_shared_c1
      simpa using hq
    · intro x y E' hy hn
      unfold ir_shared_b2
      simp [hy]
      exact hn
    · simp [gcd_abs]
      exact ends_rt h
  · exact h.elim
/-- an error -/
def badFr (x y : D) : Prop := whD x = some false ∨ (whD x = some true ∧ (whD y = some false ∨ y = .int 0))
def φ_fraction : DSp := fun l M Q E => match l with
  | [x, y] => (∃ a b, x = .int a ∧ y = .int b ∧ b ≠ 0 ∧ b.natAbs < 2 ^ 9000 ∧ Q (rt (Rat.divInt a b)) M) ∨ (badFr x y ∧ E 0 [] M)
  | _ => False
theorem whD_int {x : D} (h : whD x = some true) : ∃ a, x = .int a := by
  cases x <;> first | exact ⟨_, rfl⟩ | (simp [whD] at h)
theorem b_fraction (g0 : Γ[0]? = some φ_is_whole) (g1 : Γ[1]? = some φ_shared) (h : φ_fraction ds M Q E) : dSs Γ xm ir_fraction (endW E) (endS Q) (startD 3 ds) M := by
  unfold φ_fraction at h
  split at h
  · rename_i x y
    unfold ir_fraction
    rcases h with ⟨a, b, rfl, rfl, h0, hs, hq⟩ | ⟨hb, he⟩
    · have hp : 0 < Int.gcd a b := Int.gcd_pos_of_ne_zero_right a h0
      have hl : Int.gcd a b ≤ b.natAbs := Nat.gcd_le_right _ (by omega)
      by_cases hn : b < 0
      · simp [startD, g0, g1, h0, hn]
        refine ⟨cdv (by omega) (by omega), cdv (by omega) (by omega), ?_⟩
        have := quo_divInt (a := a) h0 rfl
        rw [if_pos hn] at this
        exact ends_rt (by rw [this]; exact hq)
      · simp [startD, g0, g1, h0, hn]
        refine ⟨cdv (by omega) (by omega), cdv (by omega) (by omega), ?_⟩
        have := quo_divInt (a := a) h0 rfl
        rw [if_neg hn] at this
        exact ends_rt (by rw [this]; exact hq)
    · rcases hb with hb | ⟨hb, hc | hc⟩
      · simp [startD, g0, g1, hb]
        exact ends_w he
      · simp [startD, g0, g1, hb, hc]
        exact ends_w he
      · subst hc
        simp [startD, g0, g1, hb]
        exact ends_w he
  · exact h.elim
theorem fraction_s {a b : Int} (h0 : b ≠ 0) (hs : b.natAbs < 2 ^ 9000) : φ_fraction [.int a, .int b] M Q E = Q (rt (Rat.divInt a b)) M := by
  refine propext ⟨?_, fun h => .inl ⟨a, b, rfl, rfl, h0, hs, h⟩⟩
  rintro (⟨a', b', e1, e2, _, _, h⟩ | ⟨h, _⟩)
  · cases e1; cases e2; exact h
  · simp [badFr, h0] at h
def φ_fraction1 : DSp := fun l M Q E => match l with
  | [x] => φ_fraction [x, .int 1] M Q E
  | _ => False
@[simp] theorem fraction1_s {x : D} : φ_fraction1 [x] M Q E = φ_fraction [x, .int 1] M Q E := rfl
/-- a fraction in lowest terms, or none -/
def isFr : D → Option Bool
  | .tup [x, y] => (whD x).bind fun a => (whD y).bind fun b => some (match x, y with
    | .int u, .int v => a && b && decide (0 < v) && decide ((Int.gcd u v : Int) = 1)
    | _, _ => false)
  | .tup _ => some false
  | .non => some false
  | .bl _ => some false
  | .int _ => some false
  | .str _ => some false
  | .lst _ => some false
  | _ => none
@[simp] theorem isFr_rt {q : Rat} : isFr (rt q) = some true := by
  have h1 : 0 < q.den := q.den_pos
  have h2 : ((Int.gcd q.num q.den : Nat) : Int) = 1 := congrArg Int.ofNat q.reduced
  unfold rt isFr
  simp [whD, h1, h2]
def φ_is_fraction : DSp := fun l M Q _ => match l with
  | [d] => opt (isFr d) fun b => Q (.bl b) M
  | _ => False
@[simp] theorem is_fraction_s {d : D} : φ_is_fraction [d] M Q E = opt (isFr d) fun b => Q (.bl b) M := rfl
theorem b_is_fraction (g0 : Γ[0]? = some φ_is_whole) (g1 : Γ[1]? = some φ_shared) (h : φ_is_fraction ds M Q E) : dSs Γ xm ir_is_fraction (endW E) (endS Q) (startD 1 ds) M := by
  unfold φ_is_fraction at h
  split at h
  · rename_i d
    unfold ir_is_fraction
    cases d with
    | tup xs =>
      rcases xs with _ | ⟨x, _ | ⟨y, _ | ⟨z, xs⟩⟩⟩
      · simp [isFr] at h
        simp [startD, kit_t1, kit_t2, kit_t3, kit_t4, kit_t5, kit_t6, kit_u1, kit_u2, kit_u3, kit_u4, kit_u5, kit_u6]
        exact ends_rt h
      · simp [isFr] at h
        simp [startD, kit_t1, kit_t2, kit_t3, kit_t4, kit_t5, kit_t6, kit_u1, kit_u2, kit_u3, kit_u4, kit_u5, kit_u6]
        exact ends_rt h
      · simp [isFr] at h
        cases hx : whD x with
        | none => rw [hx] at h; exact h.elim
        | some a =>
          cases hy : whD y with
          | none => rw [hx, hy] at h; exact h.elim
          | some b =>
            rw [hx, hy] at h
            simp at h
            cases a
            · simp [startD, g0, g1, hx, hy, kit_u1, kit_u2, kit_u3, kit_u4, kit_u5, kit_u6]
              refine ends_rt ?_
              cases x <;> first | (simp [whD] at hx; done) | exact h
            · obtain ⟨u, rfl⟩ := whD_int hx
              cases b
              · simp [startD, g0, g1, hx, hy, kit_u1, kit_u2, kit_u3, kit_u4, kit_u5, kit_u6]
                refine ends_rt ?_
                cases y <;> first | (simp [whD] at hy; done) | exact h
              · obtain ⟨v, rfl⟩ := whD_int hy
                simp at h
                by_cases hv : 0 < v
                · simp [startD, g0, g1, hv, kit_u1, kit_u2, kit_u3, kit_u4, kit_u5, kit_u6]
                  refine ends_rt ?_
                  simpa [hv] using h
                · simp [startD, g0, g1, hv, kit_u1, kit_u2, kit_u3, kit_u4, kit_u5, kit_u6]
                  refine ends_rt ?_
                  simpa [hv] using h
      · simp [isFr] at h
        have : ¬ ((xs.length : Int) + 1 + 1 + 1 = 2) := by omega
        simp [startD, this, kit_t1, kit_t2, kit_t3, kit_t4, kit_t5, kit_t6, kit_u1, kit_u2, kit_u3, kit_u4, kit_u5, kit_u6]
        exact ends_rt h
    | _ =>
      simp [isFr] at h
      try (
        simp [startD, kit_t1, kit_t2, kit_t3, kit_t4, kit_t5, kit_t6, kit_u1, kit_u2, kit_u3, kit_u4, kit_u5, kit_u6]
        exact ends_rt h)
  · exact h.elim
/-! ### arithmetic -/
/-- a contract about two fractions -/
def bin2 (f : Rat → Rat → D) : DSp := fun l M Q _ => match l with
  | [d, e] => onR (fun x => onR (fun y => Sz 4000 x ∧ Sz 4000 y ∧ Q (f x y) M) e) d
  | _ => False
def un1 (f : Rat → D) : DSp := fun l M Q _ => match l with
  | [d] => onR (fun x => Sz 8000 x ∧ Q (f x) M) d
  | _ => False
section
variable {f : Rat → Rat → D} {f1 : Rat → D} {x y : Rat}
@[simp] theorem bin2_s : bin2 f [rt x, rt y] M Q E = (Sz 4000 x ∧ Sz 4000 y ∧ Q (f x y) M) := by simp [bin2]
@[simp] theorem un1_s : un1 f1 [rt x] M Q E = (Sz 8000 x ∧ Q (f1 x) M) := by simp [un1]
theorem bin2_i (h : bin2 f ds M Q E) : ∃ x y, ds = [rt x, rt y] ∧ Sz 4000 x ∧ Sz 4000 y ∧ Q (f x y) M := by
  unfold bin2 at h
  split at h
  · obtain ⟨x, rfl, y, rfl, h⟩ := h
    exact ⟨x, y, rfl, h⟩
  · exact h.elim
theorem un1_i (h : un1 f1 ds M Q E) : ∃ x, ds = [rt x] ∧ Sz 8000 x ∧ Q (f1 x) M := by
  unfold un1 at h
  split at h
  · obtain ⟨x, rfl, h⟩ := h
    exact ⟨x, rfl, h⟩
  · exact h.elim
theorem Sz.mok (h1 : Sz 4000 x) (h2 : Sz 4000 y) : IntMulOk x.num y.den ∧ IntMulOk y.num x.den ∧ IntMulOk x.den y.den ∧ IntMulOk x.num y.num ∧ IntMulOk x.den y.num ∧ IntMulOk y.den x.num :=
  ⟨mulOk (m := 4000) (n := 4000) h1.1 (by simpa using h2.2) (by decide), mulOk (m := 4000) (n := 4000) h2.1 (by simpa using h1.2) (by decide), mulOk (m := 4000) (n := 4000) (by simpa using h1.2) (by simpa using h2.2) (by decide), mulOk (m := 4000) (n := 4000) h1.1 h2.1 (by decide), mulOk (m := 4000) (n := 4000) (by simpa using h1.2) h2.1 (by decide), mulOk (m := 4000) (n := 4000) (by simpa using h2.2) h1.1 (by decide)⟩
theorem Sz.mul_lt {a b : Nat} (h1 : a < 2 ^ 4000) (h2 : b < 2 ^ 4000) : a * b < 2 ^ 9000 := pow_mono (U.mul_lt h1 h2) (by decide)
theorem Sz.den_mul (h1 : Sz 4000 x) (h2 : Sz 4000 y) : ((x.den : Int) * y.den).natAbs < 2 ^ 9000 := by
  rw [Int.natAbs_mul]; exact Sz.mul_lt h1.2 h2.2
theorem den_ne (x : Rat) : (x.den : Int) ≠ 0 := by have := x.den_pos; omega
theorem den_mul_ne (x y : Rat) : (x.den : Int) * y.den ≠ 0 := Int.mul_ne_zero (den_ne x) (den_ne y)
theorem add_div (x y : Rat) : Rat.divInt (x.num * y.den + y.num * x.den) (x.den * y.den) = x + y := by
  rw [← Rat.divInt_add_divInt _ _ (den_ne x) (den_ne y), Rat.num_divInt_den, Rat.num_divInt_den]
theorem mul_div (x y : Rat) : Rat.divInt (x.num * y.num) (x.den * y.den) = x * y := by
  rw [← Rat.divInt_mul_divInt, Rat.num_divInt_den, Rat.num_divInt_den]
theorem sub_div (x y : Rat) : Rat.divInt (x.num * y.den - y.num * x.den) (x.den * y.den) = x - y := by
  rw [Rat.sub_eq_add_neg, ← add_div]
  simp [Int.sub_eq_add_neg, Int.neg_mul]
theorem quot_div (x y : Rat) : Rat.divInt (x.num * y.den) (x.den * y.num) = x / y := by
  rw [Rat.div_def, ← Rat.divInt_mul_divInt]
  rw [Rat.num_divInt_den, ← Rat.inv_divInt, Rat.num_divInt_den]
end
def φ_plus : DSp := bin2 fun x y => rt (x + y)
def φ_minus : DSp := bin2 fun x y => rt (x - y)
/-- a product of pairs, in lowest terms or not -/
def φ_times : DSp := fun l M Q _ => match l with
  | [.tup [.int a, .int b], .tup [.int c, .int d]] => b ≠ 0 ∧ d ≠ 0 ∧ a.natAbs < 2 ^ 4000 ∧ b.natAbs < 2 ^ 4000 ∧ c.natAbs < 2 ^ 4000 ∧ d.natAbs < 2 ^ 4000 ∧ Q (rt (Rat.divInt a b * Rat.divInt c d)) M
  | _ => False
theorem b_plus (g2 : Γ[2]? = some φ_fraction) (h : φ_plus ds M Q E) : dSs Γ xm ir_plus (endW E) (endS Q) (startD 2 ds) M := by
  obtain ⟨x, y, rfl, hx, hy, h⟩ := bin2_i h
  obtain ⟨m1, m2, m3, -⟩ := Sz.mok hx hy
  unfold ir_plus
  simp [startD, g2, m1, m2, m3]
  rw [fraction_s (den_mul_ne x y) (hx.den_mul hy), add_div]
  exact ends_rt h
theorem b_minus (g2 : Γ[2]? = some φ_fraction) (h : φ_minus ds M Q E) : dSs Γ xm ir_minus (endW E) (endS Q) (startD 2 ds) M := by
  obtain ⟨x, y, rfl, hx, hy, h⟩ := bin2_i h
  obtain ⟨m1, m2, m3, -⟩ := Sz.mok hx hy
  unfold ir_minus
  simp [startD, g2, m1, m2, m3]
  rw [fraction_s (den_mul_ne x y) (hx.den_mul hy), sub_div]
  exact ends_rt h
theorem b_times (g2 : Γ[2]? = some φ_fraction) (h : φ_times ds M Q E) : dSs Γ xm ir_times (endW E) (endS Q) (startD 2 ds) M := by
  unfold φ_times at h
  split at h
  · rename_i a b c d
    obtain ⟨hb, hd, s1, s2, s3, s4, h⟩ := h
    have m1 : IntMulOk a c := mulOk (m := 4000) (n := 4000) s1 s3 (by decide)
    have m2 : IntMulOk b d := mulOk (m := 4000) (n := 4000) s2 s4 (by decide)
    unfold ir_times
    simp [startD, g2, m1, m2]
    rw [fraction_s (Int.mul_ne_zero hb hd) (by rw [Int.natAbs_mul]; exact Sz.mul_lt s2 s4), ← Rat.divInt_mul_divInt]
    exact ends_rt h
  · exact h.elim
def φ_over : DSp := fun l M Q E => match l with
  | [d, e] => onR (fun x => onR (fun y => Sz 4000 x ∧ Sz 4000 y ∧ ((y ≠ 0 ∧ Q (rt (x / y)) M) ∨ (y = 0 ∧ E 0 [] M))) e) d
  | _ => False
theorem over_s {x y : Rat} (h : y ≠ 0) : φ_over [rt x, rt y] M Q E = (Sz 4000 x ∧ Sz 4000 y ∧ Q (rt (x / y)) M) := by simp [φ_over, h]
theorem b_over (g2 : Γ[2]? = some φ_fraction) (h : φ_over ds M Q E) : dSs Γ xm ir_over (endW E) (endS Q) (startD 2 ds) M := by
  unfold φ_over at h
  split at h
  · obtain ⟨x, rfl, y, rfl, hx, hy, h⟩ := h
    obtain ⟨m1, m2, m3, m4, m5, m6⟩ := Sz.mok hx hy
    unfold ir_over
    simp [startD, g2, m1, m2, m3, m4, m5, m6]
    rcases h with ⟨h0, h⟩ | ⟨rfl, h⟩
    · rw [fraction_s (Int.mul_ne_zero (den_ne x) (by simpa using h0)) (by rw [Int.natAbs_mul]; exact Sz.mul_lt hx.2 hy.1), quot_div]
      exact ends_rt h
    · exact .inr ⟨.inr ⟨rfl, .inr (by simp)⟩, ends_w h⟩
  · exact h.elim
end
end U
end
section
set_option maxHeartbeats 2000000
namespace U
open PySem PySem.Spec PyProof.Rows L2 DL
section
variable {Γ : List DSp} {xm : Nat → Nat → Option Bool} {ds : List D} {M : Mem} {Q : QD} {E : XD}
def ab (x : Rat) : Rat := if x < 0 then -x else x
theorem rt_neg (x : Rat) : D.tup [.int (-x.num), .int x.den] = rt (-x) := rfl
theorem num_neg_iff (x : Rat) : x.num < 0 ↔ x < 0 := by
  rw [Rat.lt_iff]; simp
theorem rt_ab (x : Rat) : D.tup [.int (if x.num < 0 then -x.num else x.num), .int x.den] = rt (ab x) := by
  unfold ab
  by_cases h : x < 0
  · rw [if_pos h, if_pos ((num_neg_iff x).mpr h)]; rfl
  · rw [if_neg h, if_neg (fun q => h ((num_neg_iff x).mp q))]; rfl
def φ_against : DSp := un1 fun x => rt (-x)
def φ_sized : DSp := un1 fun x => rt (ab x)
theorem b_against (h : φ_against ds M Q E) : dSs Γ xm ir_against (endW E) (endS Q) (startD 1 ds) M := by
  obtain ⟨x, rfl, hx, h⟩ := un1_i h
  unfold ir_against
  simp [startD, rt_neg]
  exact ends_rt h
theorem b_sized (h : φ_sized ds M Q E) : dSs Γ xm ir_sized (endW E) (endS Q) (startD 1 ds) M := by
  obtain ⟨x, rfl, hx, h⟩ := un1_i h
  unfold ir_sized
  simp [startD, rt_ab]
  exact ends_rt h
def cmpR (x y : Rat) : Int := (if y < x then 1 else 0) - (if x < y then 1 else 0)
def φ_order : DSp := bin2 fun x y => .int (cmpR x y)
def φ_below : DSp := bin2 fun x y => .bl (decide (x < y))
def φ_at_most : DSp := bin2 fun x y => .bl (decide (x ≤ y))
theorem b_order (h : φ_order ds M Q E) : dSs Γ xm ir_order (endW E) (endS Q) (startD 4 ds) M := by
  obtain ⟨x, y, rfl, hx, hy, h⟩ := bin2_i h
  obtain ⟨m1, m2, -⟩ := Sz.mok hx hy
  unfold ir_order
  simp [startD, m1, m2]
  refine ends_rt ?_
  unfold cmpR at h
  simpa [Rat.lt_iff] using h
theorem cmp_lt0 (x y : Rat) : cmpR x y < 0 ↔ x < y := by
  unfold cmpR
  by_cases h : x < y
  · have : ¬ y < x := by grind
    simp [h, this]
  · simp only [if_neg h, h, iff_false]
    split <;> simp
theorem cmp_le0 (x y : Rat) : cmpR x y ≤ 0 ↔ x ≤ y := by
  unfold cmpR
  by_cases h : y < x
  · have h2 : ¬ x < y := by grind
    have h3 : ¬ x ≤ y := Rat.not_le.mpr h
    simp [h, h2, h3]
  · have h3 : x ≤ y := Rat.not_lt.mp h
    simp only [if_neg h, h3]
    split <;> simp
theorem b_below (g : Γ[11]? = some φ_order) (h : φ_below ds M Q E) : dSs Γ xm ir_below (endW E) (endS Q) (startD 2 ds) M := by
  obtain ⟨x, y, rfl, hx, hy, h⟩ := bin2_i h
  unfold ir_below
  simp [startD, g, φ_order, hx, hy, cmp_lt0]
  exact ends_rt h
theorem b_at_most (g : Γ[11]? = some φ_order) (h : φ_at_most ds M Q E) : dSs Γ xm ir_at_most (endW E) (endS Q) (startD 2 ds) M := by
  obtain ⟨x, y, rfl, hx, hy, h⟩ := bin2_i h
  unfold ir_at_most
  simp [startD, g, φ_order, hx, hy, cmp_le0]
  exact ends_rt h
/-! ### loops without change of memory -/
theorem lc_pure {step : D → Mem → (Option D → Mem → Prop) → Prop} {ch : Mem → Prop} {p : Addr} {QL : List D → Mem → Prop} {g : D → Option D} (hp : M p = none) (hc : ∀ acc', ch (M.put p (.lst acc'))) :
    ∀ ds acc, (∀ d ∈ ds, ∀ acc' k, k (g d) (M.put p (.lst acc')) → step d (M.put p (.lst acc')) k) → acc.length + ds.length ≤ sizeLine → QL (acc ++ ds.filterMap g) M → lcGo step ch p QL ds acc (M.put p (.lst acc))
  | [], acc, _, _, h => ⟨hc _, Mem.put_same, by rw [Mem.del_put hp]; simpa using h⟩
  | d :: ds, acc, hs, hl, h => by
    refine ⟨hc _, hs d (by simp) _ _ ?_⟩
    cases e : g d with
    | none =>
      refine lc_pure hp hc ds acc (fun d hd => hs d (by simp [hd])) (by simp at hl; omega) ?_
      simpa [List.filterMap_cons, e] using h
    | some y =>
      refine ⟨Mem.put_same, by simp at hl; omega, ?_⟩
      simp only [Mem.put_put]
      refine lc_pure hp hc ds (acc ++ [y]) (fun d hd => hs d (by simp [hd])) (by simp at hl ⊢; omega) ?_
      simpa [List.filterMap_cons, e] using h
theorem lc_map {step : D → Mem → (Option D → Mem → Prop) → Prop} {ch : Mem → Prop} {p : Addr} {QL : List D → Mem → Prop} {g : D → D} (hp : M p = none) (hc : ∀ acc', ch (M.put p (.lst acc'))) (ds : List D)
    (hs : ∀ d ∈ ds, ∀ acc' k, k (some (g d)) (M.put p (.lst acc')) → step d (M.put p (.lst acc')) k) (hl : ds.length ≤ sizeLine) (h : QL (ds.map g) M) : lcGo step ch p QL ds [] (M.put p (.lst [])) :=
  lc_pure (g := fun d => some (g d)) hp hc ds [] hs (by simpa using hl) (by simpa [← List.filterMap_eq_map] using h)
def least (f x : Rat) : Rat := if x < f then x else f
def most (f x : Rat) : Rat := if f < x then x else f
def fracs (f : Rat → Rat → Rat) : DSp := fun l M Q _ => match l with
  | [d] => ∃ q qs, (d = .lst ((q :: qs).map rt) ∨ d = .tup ((q :: qs).map rt)) ∧ (∀ x ∈ q :: qs, Sz 4000 x) ∧ qs.length < 4000000 ∧ Q (rt (qs.foldl f q)) M
  | _ => False
def φ_least_of : DSp := fracs least
def φ_most_of : DSp := fracs most
theorem fracs_2 {f : Rat → Rat → Rat} {x y : Rat} (hx : Sz 4000 x) (hy : Sz 4000 y) (h : Q (rt (f x y)) M) : fracs f [.lst [rt x, rt y]] M Q E := ⟨x, [y], .inl rfl, by simp [hx, hy], (by simp), h⟩
theorem fracs_2t {f : Rat → Rat → Rat} {x y : Rat} (hx : Sz 4000 x) (hy : Sz 4000 y) (h : Q (rt (f x y)) M) : fracs f [.tup [rt x, rt y]] M Q E := ⟨x, [y], .inr rfl, by simp [hx, hy], (by simp), h⟩
theorem for_inv {st : D → WpS} {ch : Mem → Prop} {Dn : En} (I : List D → Ev → Mem → Prop) (hs : ∀ d ds δ M, I (d :: ds) δ M → ch M ∧ ∀ nx : Ev → Mem → Prop, (∀ δ' M', I ds δ' M' → nx δ' M') → st d { nx := nx, ct := nx, bk := Dn.nx, rt := Dn.rt } δ M)
    (hn : ∀ δ M, I [] δ M → ch M ∧ Dn.nx δ M) : ∀ ds δ M, I ds δ M → forGo st ch Dn ds δ M
  | [], δ, M, h => hn δ M h
  | d :: ds, δ, M, h => ⟨(hs d ds δ M h).1, (hs d ds δ M h).2 _ fun δ' M' h' => for_inv I hs hn ds δ' M' h'⟩
theorem least_for (g : Γ[12]? = some φ_below) {W : WD} {rows : D} {Dn : En} (qs : List Rat) (v : Rat) (o : Option D) (hv : Sz 4000 v) (hq : ∀ x ∈ qs, Sz 4000 x) (h : ∀ o, Dn.nx [some rows, some (rt (qs.foldl least v)), o] M) :
    forGo (fun d E δ M => dSs Γ xm ir_least_of_b1 W E (δ.set 2 (some d)) M) (fun _ => True) Dn (qs.map rt) [some rows, some (rt v), o] M := by
  refine for_inv (fun ds δ M' => ∃ qs' v' o', ds = qs'.map rt ∧ δ = [some rows, some (rt v'), o'] ∧ M' = M ∧ Sz 4000 v' ∧ (∀ x ∈ qs', Sz 4000 x) ∧ qs'.foldl least v' = qs.foldl least v) ?_ ?_ _ _ _ ⟨qs, v, o, rfl, rfl, rfl, hv, hq, rfl⟩
  · rintro d ds δ M' ⟨qs', v', o', e, rfl, rfl, hv, hq, ef⟩
    rcases qs' with _ | ⟨q, qs'⟩
    · simp at e
    simp at e
    obtain ⟨rfl, rfl⟩ := e
    refine ⟨trivial, fun nx hn => ?_⟩
    have h1 := hq q (by simp)
    unfold ir_least_of_b1
    simp [g, φ_below, h1, hv]
    split <;> rename_i hh
    · exact hn _ _ ⟨qs', q, _, rfl, rfl, rfl, h1, fun x hx => hq x (by simp [hx]), by rw [← ef]; simp [least, hh]⟩
    · exact hn _ _ ⟨qs', v', _, rfl, rfl, rfl, hv, fun x hx => hq x (by simp [hx]), by rw [← ef]; simp [least, hh]⟩
  · rintro δ M' ⟨qs', v', o', e, rfl, rfl, hv, hq, ef⟩
    rcases qs' with _ | ⟨q, qs'⟩
    · refine ⟨trivial, ?_⟩
      simp at ef
      rw [ef]
      exact h _
    · simp at e
theorem b_least_of (g : Γ[12]? = some φ_below) (h : φ_least_of ds M Q E) : dSs Γ xm ir_least_of (endW E) (endS Q) (startD 3 ds) M := by
  unfold φ_least_of fracs at h
  split at h
  · obtain ⟨q, qs, hd, hs, hl, h⟩ := h
    unfold ir_least_of
    have h1 := hs q (by simp)
    rcases hd with rfl | rfl
    · simp [startD]
      intro _
      refine least_for g qs q _ h1 (fun x hx => hs x (by simp [hx])) fun o => ?_
      simp
      exact ends_rt h
    · simp [startD]
      intro _
      refine least_for g qs q _ h1 (fun x hx => hs x (by simp [hx])) fun o => ?_
      simp
      exact ends_rt h
  · exact h.elim
theorem neg_least (qs : List Rat) (q : Rat) : -((qs.map fun x => -x).foldl least (-q)) = qs.foldl most q := by
  induction qs generalizing q with
  | nil => simp
  | cons x qs ih =>
    simp only [List.map_cons, List.foldl_cons]
    rw [← ih]
    have : least (-q) (-x) = -(most q x) := by
      unfold least most
      have : (-x < -q) ↔ (q < x) := by constructor <;> intro h <;> grind
      simp only [this]
      split <;> rfl
    rw [this]
theorem Sz.neg {n : Nat} {x : Rat} (h : Sz n x) : Sz n (-x) := ⟨by simpa using h.1, h.2⟩
theorem fold_sz {f : Rat → Rat → Rat} (hf : ∀ a b, f a b = a ∨ f a b = b) {n : Nat} : ∀ (qs : List Rat) (q : Rat), Sz n q → (∀ x ∈ qs, Sz n x) → Sz n (qs.foldl f q)
  | [], q, h, _ => h
  | x :: qs, q, h, hq => by
    refine fold_sz hf qs _ ?_ (fun y hy => hq y (by simp [hy]))
    rcases hf q x with e | e <;> rw [e]
    · exact h
    · exact hq x (by simp)
theorem least_or (a b : Rat) : least a b = a ∨ least a b = b := by unfold least; split <;> simp
theorem most_or (a b : Rat) : most a b = a ∨ most a b = b := by unfold most; split <;> simp
theorem b_most_of (g : Γ[9]? = some φ_against) (g2 : Γ[14]? = some φ_least_of) (h : φ_most_of ds M Q E) : dSs Γ xm ir_most_of (endW E) (endS Q) (startD 2 ds) M := by
  unfold φ_most_of fracs at h
  split at h
  · obtain ⟨q, qs, hd, hs, hl, h⟩ := h
    unfold ir_most_of
    have fin : ∀ (Q' : QD), Q' (rt (qs.foldl most q)) M → φ_least_of [.lst (((q :: qs).map rt).map fun d => match d with
        | .tup [.int a, b] => .tup [.int (-a), b]
        | d => d)] M (fun d M1 => φ_against [d] M1 Q' E) E := by
      intro Q' hQ
      refine ⟨-q, qs.map fun x => -x, .inl ?_, ?_, by simpa using hl, ?_⟩
      · simp [List.map_map]
        exact ⟨rfl, fun a _ => rfl⟩
      · intro x hx
        simp at hx
        rcases hx with rfl | ⟨y, hy, rfl⟩
        · exact (hs q (by simp)).neg
        · exact (hs y (by simp [hy])).neg
      · have hz : Sz 4000 ((qs.map fun x => -x).foldl least (-q)) := fold_sz least_or _ _ (hs q (by simp)).neg (fun x hx => by
          simp at hx; obtain ⟨y, hy, rfl⟩ := hx; exact (hs y (by simp [hy])).neg)
        simp [φ_against, hz.mono (show 4000 ≤ 8000 by decide), neg_least]
        exact hQ
    have step : ∀ (d : D) (Mx : Mem) (k : Option D → Mem → Prop), d ∈ (q :: qs).map rt → k (some (match d with
        | .tup [.int a, b] => .tup [.int (-a), b]
        | d => d)) Mx → ∀ r, dE Γ ir_most_of_e1 W0 [r, some d] Mx (fun y M3 => k (some y) M3) := by
      intro d Mx k hd hk r
      obtain ⟨x, hx, rfl⟩ := List.mem_map.mp hd
      unfold ir_most_of_e1
      simp [g, φ_against, (hs x hx).mono (show 4000 ≤ 8000 by decide)]
      exact hk
    rcases hd with rfl | rfl
    · simp only [startD]
      simp [g, g2]
      intro _ p hp
      refine lc_map (g := fun d => match d with
        | .tup [.int a, b] => .tup [.int (-a), b]
        | d => d) hp (fun _ => by simp) _ (fun d hd acc' k hk => ?_) (by simp [sizeLine]; omega) ?_
      · simp [wipeD]
        exact step d _ k (by simpa using hd) hk _
      · exact fin _ (ends_rt h)
    · simp only [startD]
      simp [g, g2]
      intro _ p hp
      refine lc_map (g := fun d => match d with
        | .tup [.int a, b] => .tup [.int (-a), b]
        | d => d) hp (fun _ => by simp) _ (fun d hd acc' k hk => ?_) (by simp [sizeLine]; omega) ?_
      · simp [wipeD]
        exact step d _ k (by simpa using hd) hk _
      · exact fin _ (ends_rt h)
  · exact h.elim
def φ_floor : DSp := un1 fun x => .int x.floor
def φ_ceiling : DSp := un1 fun x => .int x.ceil
theorem Sz.cdv {x : Rat} (h : Sz 8000 x) (i : Int) : CDv i x.den := U.cdv (den_ne x) (by simpa using pow_mono h.2 (by decide))
theorem floor_f (x : Rat) : x.num.fdiv x.den = x.floor := by rw [Rat.floor_def, Int.fdiv_eq_ediv_of_nonneg _ (by omega)]
theorem ceil_f (x : Rat) : -((-x.num).fdiv x.den) = x.ceil := by
  rw [Rat.ceil_eq_neg_floor_neg, ← floor_f]; rfl
theorem b_floor (h : φ_floor ds M Q E) : dSs Γ xm ir_floor (endW E) (endS Q) (startD 1 ds) M := by
  obtain ⟨x, rfl, hx, h⟩ := un1_i h
  unfold ir_floor
  simp [startD, hx.cdv, floor_f]
  exact ends_rt h
theorem b_ceiling (h : φ_ceiling ds M Q E) : dSs Γ xm ir_ceiling (endW E) (endS Q) (startD 1 ds) M := by
  obtain ⟨x, rfl, hx, h⟩ := un1_i h
  unfold ir_ceiling
  simp [startD, hx.cdv, ceil_f]
  exact ends_rt h
end
end U
end
section
set_option maxHeartbeats 2000000
set_option exponentiation.threshold 10000
namespace U
open PySem PySem.Spec PyProof.Rows L2 DL
section
variable {Γ : List DSp} {xm : Nat → Nat → Option Bool} {ds : List D} {M : Mem} {Q : QD} {E : XD}
/-- a power that is not too great -/
def RsOk (b e : Int) : Prop := 0 ≤ e ∧ ∃ k : Nat, b.natAbs ≤ 2 ^ k ∧ k * e.toNat ≤ 33554432
def φ_raised : DSp := fun l M Q _ => match l with
  | [.int b, .int e] => RsOk b e ∧ Q (.int (b ^ e.toNat)) M
  | _ => False
@[simp] theorem raised_s {b e : Int} : φ_raised [.int b, .int e] M Q E = (RsOk b e ∧ Q (.int (b ^ e.toNat)) M) := rfl
theorem pow_abs {b : Int} {k j : Nat} (h : b.natAbs ≤ 2 ^ k) : (b ^ j).natAbs < 2 ^ (k * j + 1) := by
  rw [Int.natAbs_pow]
  have h1 : b.natAbs ^ j ≤ (2 ^ k) ^ j := Nat.pow_le_pow_left h j
  rw [← Nat.pow_mul] at h1
  rw [Nat.pow_succ]
  have := Nat.pow_pos (n := k * j) (show 0 < 2 by decide)
  omega
theorem half_lt {t : Nat} (h : 0 < t) : t / 2 < t := Nat.div_lt_self h (by decide)
theorem fdiv2 (t : Nat) : (t : Int).fdiv 2 = (t / 2 : Nat) := by rw [Int.fdiv_eq_ediv_of_nonneg _ (by decide)]; rfl
theorem fmod2 (t : Nat) : (t : Int).fmod 2 = (t % 2 : Nat) := by rw [Int.fmod_eq_emod_of_nonneg _ (by decide)]; rfl
theorem whl_inv {c : WpT} {b : WpS} {Dn : En} {δ : Ev} (Z : Nat → Ev → Mem → Prop) (n : Nat) (h0 : Z n δ M)
    (hs : ∀ n δ M, Z n δ M → ∀ nx : Ev → Mem → Prop, (∀ n' δ' M', n' < n → Z n' δ' M' → nx δ' M') → c δ M fun t M1 => if t = true then b { nx := nx, ct := nx, bk := Dn.nx, rt := Dn.rt } δ M1 else Dn.nx δ M1) : whlGo c b Dn δ M :=
  ⟨Z, ⟨n, h0⟩, fun n δ M h => hs n δ M h _ fun n' δ' M' h1 h2 => ⟨n', h1, h2⟩⟩
theorem b_raised (h : φ_raised ds M Q E) : dSs Γ xm ir_raised (endW E) (endS Q) (startD 4 ds) M := by
  unfold φ_raised at h
  split at h
  · rename_i b e
    obtain ⟨⟨he, k, hk, hl⟩, h⟩ := h
    obtain ⟨e, rfl⟩ := Int.eq_ofNat_of_zero_le he
    simp only [Int.toNat_natCast] at hl h
    unfold ir_raised
    simp [startD, s_whl]
    refine whl_inv (fun n δ M' => ∃ i j t : Nat, n = t ∧ i + j * t = e ∧ δ = [some (.int b), some (.int t), some (.int (b ^ i)), some (.int (b ^ j))] ∧ M' = M) e ⟨0, 1, e, rfl, by omega, by simp [Int.pow_succ], rfl⟩ ?_
    rintro n δ M' ⟨i, j, t, rfl, hij, rfl, rfl⟩ nx hnx
    unfold ir_raised_c1
    simp
    by_cases ht : n = 0
    · subst ht
      simp at hij
      subst hij
      simp
      exact ends_rt h
    · have tp : 0 < n := by omega
      simp [tp]
      have hj : j ≤ e := by
        have := Nat.le_mul_of_pos_right j tp
        omega
      have ci : k * i + 1 ≤ 67108864 := by
        have : k * i ≤ k * e := Nat.mul_le_mul_left k (by omega)
        omega
      have cj : k * j + 1 ≤ 67108864 := by
        have : k * j ≤ k * e := Nat.mul_le_mul_left k hj
        omega
      have m1 : IntMulOk (b ^ i) (b ^ j) := mulOk (pow_abs hk) (pow_abs hk) (by omega)
      have m2 : IntMulOk (b ^ j) (b ^ j) := mulOk (pow_abs hk) (pow_abs hk) (by omega)
      have d2 : CDv (n : Int) 2 := cdv (by decide) (by decide)
      unfold ir_raised_b2
      simp [fmod2, fdiv2]
      split
      · refine ⟨m1, m2, d2, hnx _ _ _ (half_lt tp) ⟨i + j, j + j, n / 2, rfl, ?_, ?_, rfl⟩⟩
        · have : n = 2 * (n / 2) + 1 := by omega
          rw [← hij]
          conv => rhs; rw [this]
          grind
        · simp [Int.pow_add]
      · refine ⟨m2, d2, hnx _ _ _ (half_lt tp) ⟨i, j + j, n / 2, rfl, ?_, ?_, rfl⟩⟩
        · have : n = 2 * (n / 2) := by omega
          rw [← hij]
          conv => rhs; rw [this]
          grind
        · simp [Int.pow_add]
  · exact h.elim
/-- a power with any exponent -/
def pw (b e : Int) : Rat := if 0 ≤ e then ((b ^ e.toNat : Int) : Rat) else Rat.divInt 1 (b ^ (-e).toNat)
def φ_power : DSp := fun l M Q _ => match l with
  | [.int b, .int e] => 0 < b ∧ RsOk b (if 0 ≤ e then e else -e) ∧ Q (rt (pw b e)) M
  | _ => False
@[simp] theorem power_s {b e : Int} : φ_power [.int b, .int e] M Q E = (0 < b ∧ RsOk b (if 0 ≤ e then e else -e) ∧ Q (rt (pw b e)) M) := rfl
theorem b_power (g : Γ[18]? = some φ_raised) (h : φ_power ds M Q E) : dSs Γ xm ir_power (endW E) (endS Q) (startD 2 ds) M := by
  unfold φ_power at h
  split at h
  · rename_i b e
    obtain ⟨hb, hr, h⟩ := h
    unfold ir_power
    by_cases he : 0 ≤ e
    · rw [if_pos he] at hr
      simp [startD, he, g, hr, rt_int]
      refine ends_rt ?_
      simpa [pw, he] using h
    · rw [if_neg he] at hr
      simp [startD, he, g, hb, hr]
      refine ends_rt ?_
      simp only [pw, if_neg he] at h
      have hp : 0 < b ^ (-e).toNat := Int.pow_pos hb
      obtain ⟨n, hn⟩ := Int.eq_ofNat_of_zero_le (Int.le_of_lt hp)
      rw [hn] at h ⊢
      rw [rt_lit (by omega) (by simp)]
      exact h
  · exact h.elim
/-! ### roots -/
def φ_root_below : DSp := fun l M Q _ => match l with
  | [.int n] => 0 ≤ n ∧ n.natAbs < 2 ^ 8000 ∧ ∀ r : Int, 0 ≤ r → r * r ≤ n → n < (r + 1) * (r + 1) → Q (.int r) M
  | _ => False
@[simp] theorem root_below_s {n : Int} : φ_root_below [.int n] M Q E = (0 ≤ n ∧ n.natAbs < 2 ^ 8000 ∧ ∀ r : Int, 0 ≤ r → r * r ≤ n → n < (r + 1) * (r + 1) → Q (.int r) M) := rfl
theorem newton {n h q t : Nat} (hq : q = n / h) (hh : 0 < h) (ht : t = (h + q) / 2) : n < (t + 1) * (t + 1) := by
  have h1 : n < (q + 1) * h := by
    have := Nat.lt_mul_div_succ n hh
    rw [hq, Nat.mul_comm]; exact this
  have h2 : h + q + 1 ≤ 2 * (t + 1) := by omega
  have h3 : (h + q + 1) * (h + q + 1) ≤ (2 * (t + 1)) * (2 * (t + 1)) := Nat.mul_le_mul h2 h2
  have h4 : 4 * ((q + 1) * h) ≤ (h + q + 1) * (h + q + 1) := by
    rcases Nat.le_total h (q + 1) with e | e
    · obtain ⟨d, hd⟩ := Nat.exists_eq_add_of_le e
      have : h + q + 1 = 2 * h + d := by omega
      rw [this, hd]
      have : (2 * h + d) * (2 * h + d) = 4 * ((h + d) * h) + d * d := by grind
      omega
    · obtain ⟨d, hd⟩ := Nat.exists_eq_add_of_le e
      have : h + q + 1 = 2 * (q + 1) + d := by omega
      rw [this, hd]
      have : (2 * (q + 1) + d) * (2 * (q + 1) + d) = 4 * ((q + 1) * (q + 1 + d)) + d * d := by grind
      omega
  have h5 : (2 * (t + 1)) * (2 * (t + 1)) = 4 * ((t + 1) * (t + 1)) := by grind
  omega
theorem newton_out {n h q t : Nat} (hq : q = n / h) (hh : 0 < h) (ht : t = (h + q) / 2) (hge : h ≤ t) : h * h ≤ n := by
  have : h ≤ q := by omega
  calc h * h ≤ q * h := Nat.mul_le_mul_right h this
    _ ≤ n := by rw [hq]; exact Nat.div_mul_le_self n h
theorem fdiv_nat (a b : Nat) : (a : Int).fdiv b = (a / b : Nat) := by rw [Int.fdiv_eq_ediv_of_nonneg _ (by omega)]; rfl
theorem bits_nat {n : Nat} (h : 0 < n) : n < 2 ^ (Builtin.Int.intBits n) := by
  unfold Builtin.Int.intBits
  rw [if_neg (by simp; omega)]
  exact Nat.lt_log2_self
theorem b_root_below (h : φ_root_below ds M Q E) : dSs Γ xm ir_root_below (endW E) (endS Q) (startD 3 ds) M := by
  unfold φ_root_below at h
  split at h
  · rename_i n
    obtain ⟨h0, hs, h⟩ := h
    obtain ⟨n, rfl⟩ := Int.eq_ofNat_of_zero_le h0
    unfold ir_root_below
    by_cases h2 : (n : Int) < 2
    · simp [startD, h2]
      refine ends_rt (h _ h0 ?_ ?_)
      · have : n = 0 ∨ n = 1 := by omega
        rcases this with rfl | rfl <;> decide
      · have : n = 0 ∨ n = 1 := by omega
        rcases this with rfl | rfl <;> decide
    · have hb := bits_le hs
      obtain ⟨j, hj⟩ : ∃ j, j = (Builtin.Int.intBits n + 1) / 2 := ⟨_, rfl⟩
      have cs : CShl 1 (j : Int) := ⟨by omega, by
        have : Builtin.Int.intBits 1 = 1 := by decide
        rw [this]; omega⟩
      have e1 : ((Builtin.Int.intBits n : Int) + 1).fdiv 2 = (j : Int) := by rw [hj]; exact fdiv_nat (Builtin.Int.intBits n + 1) 2
      have d2 : ∀ i : Int, CDv i 2 := fun i => cdv (by decide) (by decide)
      simp [startD, h2, d2, e1, cs, s_whl]
      obtain ⟨B, hBe⟩ : ∃ B : Nat, B = 2 ^ j := ⟨_, rfl⟩
      have hBi : (2 : Int) ^ j = (B : Int) := by rw [hBe]; simp
      rw [hBi]
      have hB : n < (B + 1) * (B + 1) := by
        have q1 := bits_nat (n := n) (by omega)
        have q2 : Builtin.Int.intBits n ≤ j + j := by omega
        have q3 : 2 ^ Builtin.Int.intBits n ≤ B * B := by
          rw [hBe, ← Nat.pow_add]; exact Nat.pow_le_pow_right (by decide) q2
        have q4 : B * B ≤ (B + 1) * (B + 1) := Nat.mul_le_mul (by omega) (by omega)
        omega
      have hBp : 0 < B := by rw [hBe]; exact Nat.pow_pos (by decide)
      have hBs : B < 2 ^ 9000 := by rw [hBe]; exact Nat.pow_lt_pow_right (by decide) (by omega)
      refine whl_inv (fun k δ M' => ∃ (c : Nat) (o : Option D), k = c ∧ 0 < c ∧ c < 2 ^ 9000 ∧ n < (c + 1) * (c + 1) ∧ δ = [some (.int n), some (.int c), o] ∧ M' = M) B ⟨B, none, rfl, hBp, hBs, hB, rfl, rfl⟩ ?_
      rintro k δ M' ⟨c, o, rfl, hc, hcs, hn, rfl, rfl⟩ nx hnx
      unfold ir_root_below_c1
      simp
      have d1 : CDv (n : Int) k := cdv (by omega) (by omega)
      obtain ⟨t, ht⟩ : ∃ t, t = (k + n / k) / 2 := ⟨_, rfl⟩
      have e2 : ((k : Int) + (n : Int).fdiv k).fdiv 2 = (t : Int) := by
        rw [fdiv_nat, ht]; exact fdiv_nat (k + n / k) 2
      unfold ir_root_below_b2
      have nt := newton rfl hc ht
      by_cases hge : k ≤ t
      · have : (k : Int) ≤ t := by omega
        simp [d1, d2, e2, hge]
        refine ends_rt (h _ (by omega) ?_ ?_)
        · have := newton_out rfl hc ht hge
          exact_mod_cast this
        · exact_mod_cast hn
      · simp [d1, d2, e2, hge]
        refine hnx _ _ _ ?_ ⟨t, _, rfl, ?_, by omega, nt, rfl, rfl⟩
        · omega
        · rcases Nat.eq_zero_or_pos t with e | e
          · rw [e] at nt; omega
          · exact e
  · exact h.elim
end
end U
end
section
set_option maxHeartbeats 2000000
set_option exponentiation.threshold 10000
namespace U
open PySem PySem.Spec PyProof.Rows L2 DL
section
variable {Γ : List DSp} {xm : Nat → Nat → Option Bool} {ds : List D} {M : Mem} {Q : QD} {E : XD}
/-! ### the law's own small ones -/
def φ_law_draws : DSp := fun l M Q _ => match l with
  | [d] => ∃ xs, sqM M d = some xs ∧ ∀ p, M p = none → Q (.ref p) (M.put p (.lst [.lst xs, .int 0, .int 0, .int 1]))
  | _ => False
theorem b_law_draws (h : φ_law_draws ds M Q E) : dSs Γ xm ir_law_draws (endW E) (endS Q) (startD 1 ds) M := by
  unfold φ_law_draws at h
  split at h
  · obtain ⟨xs, e, h⟩ := h
    unfold ir_law_draws
    simp [startD, e]
    exact fun p hp => ends_rt (h p hp)
  · exact h.elim
def DrS (o : MO) : Prop := ∃ (ns : List Int) (i q s : Int), o = .lst [.lst (ns.map .int), .int i, .int q, .int s] ∧ 0 ≤ i ∧ 0 ≤ q ∧ 0 ≤ s
theorem DrS.new (ns : List Int) : DrS (.lst [.lst (ns.map .int), .int 0, .int 0, .int 1]) := ⟨ns, 0, 0, 1, rfl, by decide, by decide, by decide⟩
def φ_law_draw : DSp := fun l M Q _ => match l with
  | [.ref p, .int n] => 0 < n ∧ n.natAbs < 2 ^ 8000 ∧ (∃ o, M p = some o ∧ DrS o) ∧ ∀ v o, 0 ≤ v → v < n → DrS o → Q (.int v) (M.put p o)
  | _ => False
theorem draw_s {p : Addr} {n : Int} {o : MO} (h0 : 0 < n) (hn : n.natAbs < 2 ^ 8000) (ho : DrS o) (h : ∀ v o, 0 ≤ v → v < n → DrS o → Q (.int v) (M.put p o)) : φ_law_draw [.ref p, .int n] (M.put p o) Q E :=
  ⟨h0, hn, ⟨o, Mem.put_same, ho⟩, fun v o' a b c => by rw [Mem.put_put]; exact h v o' a b c⟩
theorem Mem.put_self {p : Addr} {o : MO} (h : M p = some o) : M.put p o = M := by
  funext b; unfold Mem.put; split
  · rename_i e; rw [e, h]
  · rfl
@[simp] theorem sub_put {p : Addr} {u : Int} {d : D} {xs : List D} {km : Mem → Prop} : wSub (.ref p) (.int u) d (M.put p (.lst xs)) km = opt (ixN xs.length u) fun j => km (M.put p (.lst (xs.set j d))) := by
  rw [sub_ref Mem.put_same]; simp only [Mem.put_put]
@[simp] theorem ix41 : ixN 4 1 = some 1 := by decide
@[simp] theorem ix42 : ixN 4 2 = some 2 := by decide
@[simp] theorem ix43 : ixN 4 3 = some 3 := by decide
theorem fmod_in {a b : Int} (h : 0 < b) : 0 ≤ a.fmod b ∧ a.fmod b < b := ⟨Int.fmod_nonneg_of_pos _ h, Int.fmod_lt_of_pos _ h⟩
theorem at_int {α : Type} {l : List α} {i : Int} (h : 0 ≤ i) : atI l i = l[i.toNat]? := by
  obtain ⟨n, rfl⟩ := Int.eq_ofNat_of_zero_le h
  exact at_nat
theorem b_law_draw (h : φ_law_draw ds M Q E) : dSs Γ xm ir_law_draw (endW E) (endS Q) (startD 4 ds) M := by
  unfold φ_law_draw at h
  split at h
  · rename_i p n
    obtain ⟨h0, hn, ⟨o, ho, ns, i, q, s, rfl, hi, hq, hs⟩, h⟩ := h
    obtain ⟨M0, rfl⟩ : ∃ M0 : Mem, M = M0.put p (.lst [.lst (ns.map .int), .int i, .int q, .int s]) := ⟨M, (Mem.put_self ho).symm⟩
    simp only [Mem.put_put] at h
    have n0 : n ≠ 0 := by omega
    have ms : ∀ a : Int, IntMulOk a 48271 := fun a => .of_right (by decide)
    have ms2 : ∀ a : Int, IntMulOk a 69621 := fun a => .of_right (by decide)
    have d11 : ∀ a : Int, CDv a 11 := fun a => cdv (by decide) (by decide)
    have dn : ∀ a : Int, CDv a n := fun a => cdv n0 (by exact pow_mono hn (by decide))
    have cp : CPow 10 18 := ⟨by decide, by decide, by decide⟩
    have rest : ∀ (i q s : Int) (o2 o3 : Option D), 0 ≤ i → 0 ≤ q → 0 ≤ s → dSs Γ xm (.cons (.ite (.cmp .Gt (.idx (.var 0) (.cst (.int 2))) (.cst (.int 0))) (.cons (.set 3 (.bin .Mod (.blt .int (.cons (.idx (.var 0) (.cst (.int 2))) .nil)) (.var 1))) (.cons (.sub (.var 0) (.cst (.int 2)) (.bin .FloorDiv (.idx (.var 0) (.cst (.int 2))) (.var 1))) (.cons (.ret (.var 3)) .nil))) .nil) (.cons (.sub (.var 0) (.cst (.int 3)) (.bin .Mod (.blt .int (.cons (.bin .Add (.bin .Mult (.idx (.var 0) (.cst (.int 3))) (.cst (.int 69621))) (.cst (.int 7))) .nil)) (.cst (.int 2147483629)))) (.cons (.ret (.bin .Mod (.blt .int (.cons (.bin .FloorDiv (.idx (.var 0) (.cst (.int 3))) (.cst (.int 11))) .nil)) (.var 1))) .nil)))
        (endW E) (endS Q) [some (.ref p), some (.int n), o2, o3] (M0.put p (.lst [.lst (ns.map .int), .int i, .int q, .int s])) := by
      intro i q s o2 o3 hi hq hs
      simp
      split
      · refine ⟨n0, dn _, ends_rt (h _ _ (fmod_in h0).1 (fmod_in h0).2 ⟨ns, i, _, s, rfl, hi, ?_, hs⟩)⟩
        rw [Int.fdiv_eq_ediv_of_nonneg _ (by omega)]
        exact Int.ediv_nonneg hq (by omega)
      · refine ⟨ms2 _, d11 _, n0, ends_rt (h _ _ (fmod_in h0).1 (fmod_in h0).2 ⟨ns, i, q, _, rfl, hi, hq, (fmod_in (by decide)).1⟩)⟩
    unfold ir_law_draw
    simp only [startD, List.map, ss_cons, s_ite]
    simp only [t_and, t_cmp, e_idx, e_var, e_cst, e_blt, a_cons, a_nil]
    simp
    have k : ∀ (o2 : Option D), dSs Γ xm _ _ _ [some (.ref p), some (.int n), o2, none] _ := fun o2 => rest i q s o2 none hi hq hs
    simp at k
    split
    · split
      · rename_i hlt
        have hlt' : i < ns.length := by simpa using hlt
        rw [at_int hi]
        obtain ⟨c, hc⟩ : ∃ c, ns[i.toNat]? = some c := ⟨_, List.getElem?_eq_getElem (by omega)⟩
        simp [hc, cp]
        split
        · simp [ms]
          have := rest (i + 1) c ((s * 48271 + c + 13).fmod 2147483647) (some (.int c)) none (by omega) (by omega) (fmod_in (by decide)).1
          simpa using this
        · simp [ms]
          have := rest (i + 1) q ((s * 48271 + c + 13).fmod 2147483647) (some (.int c)) none (by omega) hq (fmod_in (by decide)).1
          simpa using this
      · exact k
    · exact k
  · exact h.elim
def φ_law_low : DSp := fun l M Q _ => match l with
  | [.int a, .int b] => b ≠ 0 ∧ b.natAbs < 2 ^ 9000 ∧ Q (rt (Rat.divInt a b)) M
  | _ => False
@[simp] theorem law_low_s {a b : Int} : φ_law_low [.int a, .int b] M Q E = (b ≠ 0 ∧ b.natAbs < 2 ^ 9000 ∧ Q (rt (Rat.divInt a b)) M) := rfl
theorem b_law_low (h : φ_law_low ds M Q E) : dSs Γ xm ir_law_low (endW E) (endS Q) (startD 4 ds) M := by
  unfold φ_law_low at h
  split at h
  · rename_i a b
    obtain ⟨h0, hs, h⟩ := h
    unfold ir_law_low
    have hp : 0 < Int.gcd a b := Int.gcd_pos_of_ne_zero_right a h0
    have hl : Int.gcd a b ≤ b.natAbs := Nat.gcd_le_right _ (by omega)
    simp [startD, s_whl]
    refine euclid (st := fun x y => [some (.int a), some (.int b), some (.int x), some (.int y)]) (by split <;> omega) (by split <;> omega) ?_ ?_ ?_
    · intro x y QT hq
      unfold ir_law_low_c1
      simpa using hq
    · intro x y E' hy hn
      unfold ir_law_low_b2
      simp [hy]
      exact hn
    · simp [gcd_abs]
      have hq := quo_divInt (a := a) h0 rfl
      by_cases hn : 0 < b
      · rw [if_neg (by omega)] at hq
        simp [hn]
        exact ⟨cdv (by omega) (by omega), cdv (by omega) (by omega), ends_rt (by rw [hq]; exact h)⟩
      · rw [if_pos (by omega)] at hq
        simp [hn]
        exact ⟨cdv (by omega) (by omega), cdv (by omega) (by omega), ends_rt (by rw [hq]; exact h)⟩
  · exact h.elim
/-- data that may be compared -/
def okD : Nat → D → Bool
  | _, .non => true
  | _, .bl _ => true
  | _, .int _ => true
  | _, .str _ => true
  | k + 1, .tup xs => decide (xs.length ≤ 4000000) && xs.all (okD k)
  | k + 1, .lst xs => decide (xs.length ≤ 4000000) && xs.all (okD k)
  | _, _ => false
def φ_law_same (k : Nat) : DSp := fun l M Q _ => match l with
  | [x, y] => x = y ∧ okD k x = true ∧ Q (.bl true) M
  | _ => False
theorem same_s {k : Nat} {x y : D} (e : x = y) (h : okD k x = true) : φ_law_same k [x, y] M Q E = Q (.bl true) M := propext ⟨fun h => h.2.2, fun q => ⟨e, h, q⟩⟩
theorem rngD_get {d : D} {n : Nat} (h : d ∈ rngD 0 1 n) : ∃ i : Nat, i < n ∧ d = .int i := by
  unfold rngD at h
  obtain ⟨i, hi, rfl⟩ := List.mem_map.mp h
  exact ⟨i, List.mem_range.mp hi, by simp⟩
theorem b_law_same {k : Nat} (g : ∀ k', k = k' + 1 → Γ[24]? = some (φ_law_same k')) (h : φ_law_same k ds M Q E) : dSs Γ xm ir_law_same (endW E) (endS Q) (startD 3 ds) M := by
  unfold φ_law_same at h
  split at h
  · rename_i x y
    obtain ⟨rfl, ho, h⟩ := h
    have comp : ∀ (xs : List D), (∀ k', k = k' + 1 → xs.length ≤ 4000000 ∧ xs.all (okD k') = true) → (∃ k', k = k' + 1) → (x = .tup xs ∨ x = .lst xs) → ∀ p, M p = none →
        lcGo (fun d M k => dT Γ ir_law_same_t1 W0 [some x, some x, some d] M fun b M2 => if b = true then dE Γ ir_law_same_e2 W0 [some x, some x, some d] M2 fun y M3 => k (some y) M3 else k none M2) (fun _ => True) p (fun es M3 => (endS Q).rt (D.bl (decide ((es.length : Int) = 0))) M3) (rngD 0 1 xs.length) [] (M.put p (.lst [])) := by
      intro xs hk ⟨k', ek⟩ hx p hp
      obtain ⟨hl, ha⟩ := hk k' ek
      refine lc_pure (g := fun _ => none) hp (fun _ => trivial) _ _ (fun d hd acc' kk hkk => ?_) ?_ ?_
      · obtain ⟨i, hi, rfl⟩ := rngD_get hd
        obtain ⟨c, hc⟩ : ∃ c, xs[i]? = some c := ⟨_, List.getElem?_eq_getElem hi⟩
        have oc : okD k' c = true := (List.all_eq_true.mp ha) c (List.mem_of_getElem? hc)
        have gg := g k' ek
        unfold ir_law_same_t1
        rcases hx with rfl | rfl <;> simp [gg, at_nat, hc, same_s rfl oc] <;> exact hkk
      · simp [rngD, sizeLine_eq]; omega
      · simp
        exact ends_rt h
    unfold ir_law_same
    cases x with
    | non => simp [startD]; exact ends_rt h
    | bl b => simp [startD]; exact ends_rt h
    | int i => simp [startD]; exact ends_rt h
    | str s => simp [startD]; exact ends_rt h
    | tup xs =>
      cases k with
      | zero => simp [okD] at ho
      | succ k' =>
        simp [okD] at ho
        simp [startD, wipeD]
        refine ⟨⟨by omega, by omega⟩, fun p hp => ?_⟩
        have := comp xs (fun k'' e => by cases e; exact ⟨ho.1, by simpa using ho.2⟩) ⟨k', rfl⟩ (.inl rfl) p hp
        simpa using this
    | lst xs =>
      cases k with
      | zero => simp [okD] at ho
      | succ k' =>
        simp [okD] at ho
        simp [startD, wipeD]
        refine ⟨⟨by omega, by omega⟩, fun p hp => ?_⟩
        have := comp xs (fun k'' e => by cases e; exact ⟨ho.1, by simpa using ho.2⟩) ⟨k', rfl⟩ (.inr rfl) p hp
        simpa using this
    | _ => simp [okD] at ho
  · exact h.elim
/-- calls that fail with BadPlan -/
def φ_law_bad : DSp := fun l M Q _ => match l with
  | [.fn j, x, y] => ((j = 2 ∧ badFr x y) ∨ (j = 8 ∧ (∃ q, x = rt q ∧ Sz 4000 q) ∧ y = rt 0)) ∧ Q (.bl true) M
  | _ => False
@[simp] theorem law_bad_2 {x y : D} : φ_law_bad [.fn 2, x, y] M Q E = (badFr x y ∧ Q (.bl true) M) := by simp [φ_law_bad]
@[simp] theorem law_bad_8 {q : Rat} : φ_law_bad [.fn 8, rt q, rt 0] M Q E = (Sz 4000 q ∧ Q (.bl true) M) := by simp [φ_law_bad, rt_inj]
theorem b_law_bad (hx : xm 0 0 = some true) (g2 : Γ[2]? = some φ_fraction) (g8 : Γ[8]? = some φ_over) (h : φ_law_bad ds M Q E) : dSs Γ xm ir_law_bad (endW E) (endS Q) (startD 3 ds) M := by
  unfold φ_law_bad at h
  split at h
  · rename_i j x y
    obtain ⟨hj, h⟩ := h
    unfold ir_law_bad
    rcases hj with ⟨rfl, hb⟩ | ⟨rfl, ⟨q, rfl, hq⟩, rfl⟩
    · simp [startD, g2]
      refine .inr ⟨hb, ?_⟩
      simp [hx]
      exact ends_rt h
    · simp [startD, g8, φ_over]
      refine ⟨hq, ⟨by decide, by decide⟩, ?_⟩
      simp [hx]
      exact ends_rt h
  · exact h.elim
end
end U
end
section
set_option maxHeartbeats 2000000
set_option exponentiation.threshold 10000
namespace U
open PySem PySem.Spec PyProof.Rows L2 DL
section
variable {Γ : List DSp} {xm : Nat → Nat → Option Bool} {ds : List D} {M : Mem} {Q : QD} {E : XD}
/-- n has k digits -/
def Dg (b n k : Nat) : Prop := n < b ^ k ∧ (k = 0 ∨ b ^ (k - 1) ≤ n)
def φ_digits_in : DSp := fun l M Q _ => match l with
  | [.int n, .int b] => 0 ≤ n ∧ n.natAbs < 2 ^ 8000 ∧ 2 ≤ b ∧ b.natAbs < 2 ^ 8000 ∧ ∀ k, Dg b.toNat n.toNat k → Q (.int k) M
  | _ => False
theorem rngD_down (t : Nat) : rngD (t : Int) (-1) (t + 1) = .int t :: rngD ((t : Int) - 1) (-1) t := by
  unfold rngD
  rw [List.range_succ_eq_map]
  simp
  intro a _
  omega
theorem rngD_zero (lo c : Int) : rngD lo c 0 = [] := rfl
/-- the row of squares -/
def sqs (b i : Nat) : List D := (List.range (i + 1)).map fun k => .int ((b ^ 2 ^ k : Nat) : Int)
theorem sqs_len (b i : Nat) : (sqs b i).length = i + 1 := by simp [sqs]
theorem sqs_get {b i j : Nat} (h : j ≤ i) : (sqs b i)[j]? = some (.int ((b ^ 2 ^ j : Nat) : Int)) := by
  unfold sqs
  rw [List.getElem?_map, List.getElem?_range (by omega)]
  rfl
theorem sqs_last (b i : Nat) : atI (sqs b i) (-1) = some (.int ((b ^ 2 ^ i : Nat) : Int)) := by
  unfold atI ixN
  rw [sqs_len, if_neg (by decide), if_pos (by omega)]
  show (sqs b i)[_]? = _
  have : -1 + ((i + 1 : Nat) : Int) = (i : Nat) := by omega
  rw [this]
  exact sqs_get (Nat.le_refl _)
theorem sqs_succ (b i : Nat) : sqs b i ++ [.int ((b ^ 2 ^ (i + 1) : Nat) : Int)] = sqs b (i + 1) := by
  unfold sqs
  rw [List.range_succ (n := i + 1), List.map_append]
  rfl
theorem sq_pow (b i : Nat) : b ^ 2 ^ i * b ^ 2 ^ i = b ^ 2 ^ (i + 1) := by
  rw [← Nat.pow_add]; congr 1; rw [Nat.pow_succ]; omega
theorem dg_step {b m e k : Nat} (hb : 2 ≤ b) (h : b ^ e ≤ m) (d : Dg b (m / b ^ e) k) : Dg b m (k + e) := by
  have hp : 0 < b ^ e := Nat.pow_pos (by omega)
  obtain ⟨h1, h2⟩ := d
  have h3 : 1 ≤ m / b ^ e := (Nat.le_div_iff_mul_le hp).mpr (by omega)
  have hk : k ≠ 0 := by rintro rfl; simp at h1; omega
  refine ⟨?_, .inr ?_⟩
  · rw [Nat.pow_add]; exact (Nat.div_lt_iff_lt_mul hp).mp h1
  · rcases h2 with h2 | h2
    · exact absurd h2 hk
    · have := (Nat.le_div_iff_mul_le hp).mp h2
      rw [← Nat.pow_add] at this
      have e1 : k - 1 + e = k + e - 1 := by omega
      rwa [e1] at this
theorem dg_last {b m : Nat} (h : m < b) : Dg b m (if 0 < m then 1 else 0) := by
  split
  · exact ⟨by simpa using h, .inr (by simp; omega)⟩
  · exact ⟨by simp; omega, .inl rfl⟩
theorem b_digits_in (h : φ_digits_in ds M Q E) : dSs Γ xm ir_digits_in (endW E) (endS Q) (startD 5 ds) M := by
  unfold φ_digits_in at h
  split at h
  · rename_i n b
    obtain ⟨hn0, hns, hb2, hbs, h⟩ := h
    obtain ⟨n, rfl⟩ := Int.eq_ofNat_of_zero_le hn0
    obtain ⟨b, rfl⟩ := Int.eq_ofNat_of_zero_le (show 0 ≤ b by omega)
    simp only [Int.toNat_natCast] at h
    have hb2' : 2 ≤ b := by omega
    have hns' : n < 2 ^ 8000 := by simpa using hns
    have hbs' : b < 2 ^ 8000 := by simpa using hbs
    unfold ir_digits_in
    simp only [startD, List.map, ss_cons, s_set, e_mls, a_cons, a_nil, e_var]
    simp
    intro p hp
    have s0 : [D.int (b : Int)] = sqs b 0 := by simp [sqs, Int.pow_succ]
    rw [s0, s_whl]
    have cast_le : ∀ x y : Nat, ((x : Int) ≤ (y : Int)) = (x ≤ y) := fun x y => by simp
    refine whl_inv (fun k δ M' => ∃ i : Nat, k = 13 - i ∧ i ≤ 13 ∧ (∀ j, j < i → b ^ 2 ^ j ≤ n) ∧ δ = [some (.int n), some (.int b), some (.ref p), none, none] ∧ M' = M.put p (.lst (sqs b i))) 13 ⟨0, rfl, by omega, fun j hj => by omega, rfl, rfl⟩ ?_
    rintro k δ M' ⟨i, rfl, hi, hj, rfl, rfl⟩ nx hnx
    unfold ir_digits_in_c1
    simp only [t_cmp, e_idx, e_var, e_neg, e_cst, DL.neg_int, List.getElem?_cons_zero, List.getElem?_cons_succ, opt_s, idx_ref, lsM_put, sqs_last, cmp_le, chn_bl, cast_le]
    by_cases hle : b ^ 2 ^ i ≤ n
    · simp only [hle, decide_true, if_true]
      have hlt : i < 13 := by
        rcases Nat.lt_or_ge i 13 with q | q
        · exact q
        · have q1 : 2 ^ 2 ^ 13 ≤ b ^ 2 ^ i := Nat.le_trans (Nat.pow_le_pow_left hb2' _) (Nat.pow_le_pow_right (by omega) (Nat.pow_le_pow_right (by decide) q))
          have q2 : 2 ^ 8000 < 2 ^ 2 ^ 13 := Nat.pow_lt_pow_right (by decide) (by decide)
          omega
      have hbi : b ^ 2 ^ i < 2 ^ 8000 := Nat.lt_of_le_of_lt hle hns'
      have mo : IntMulOk ((b ^ 2 ^ i : Nat) : Int) ((b ^ 2 ^ i : Nat) : Int) := mulOk (m := 8000) (n := 8000) (by simpa using hbi) (by simpa using hbi) (by decide)
      unfold ir_digits_in_b2
      simp only [ss_cons, ss_nil, s_drp, e_app, e_bin, e_idx, e_var, e_neg, e_cst, DL.neg_int, List.getElem?_cons_zero, List.getElem?_cons_succ, opt_s, idx_ref, lsM_put, sqs_last, bin_mul, app_put]
      refine ⟨mo, by rw [sqs_len, sizeLine_eq]; omega, ?_⟩
      have e1 : ((b ^ 2 ^ i : Nat) : Int) * ((b ^ 2 ^ i : Nat) : Int) = ((b ^ 2 ^ (i + 1) : Nat) : Int) := by
        rw [← Int.natCast_mul, sq_pow]
      rw [e1, sqs_succ]
      refine hnx _ _ _ ?_ ⟨i + 1, rfl, by omega, fun j hj' => ?_, rfl, rfl⟩
      · omega
      · rcases Nat.lt_or_ge j i with q | q
        · exact hj j q
        · have : j = i := by omega
          rw [this]; exact hle
    · simp only [hle, decide_false]
      simp only [ss_cons, ss_nil, s_set, s_for, i_rng3, e_bin, e_blt, a_cons, a_nil, e_var, e_neg, e_cst, DL.neg_int, List.getElem?_cons_zero, List.getElem?_cons_succ, List.set_cons_succ, List.set_cons_zero, opt_s, len_ref, lsM_put, sqs_len, bin_sub, rg3_int]
      have e1 : ((i + 1 : Nat) : Int) - 1 = (i : Int) := by omega
      rw [e1, if_neg (by decide)]
      refine ⟨(i - -1 : Int).toNat, RgC.neg (by omega) (by omega) (by decide) (by decide), ?_⟩
      have e2 : ((i : Int) - -1).toNat = i + 1 := by omega
      rw [e2, rngD_down]
      refine for_inv (fun ds δ M' => ∃ (t m f : Nat) (o : Option D), t ≤ i + 1 ∧ ds = rngD ((t : Int) - 1) (-1) t ∧ δ = [some (.int m), some (.int b), some (.ref p), some (.int f), o] ∧ M' = M.put p (.lst (sqs b i)) ∧ m < b ^ 2 ^ t ∧ m < 2 ^ 8000 ∧ ∀ k, Dg b m k → Dg b n (k + f)) ?_ ?_ _ _ _ ⟨i + 1, n, 0, none, Nat.le_refl _, ?_, rfl, rfl, ?_, hns', fun k hk => hk⟩
      · rintro d ds δ M' ⟨t, m, f, o, ht, hd, rfl, rfl, hm, hms, hdg⟩
        rcases t with _ | t
        · simp [rngD_zero] at hd
        have e3 : ((t + 1 : Nat) : Int) - 1 = (t : Int) := by omega
        rw [e3, rngD_down] at hd
        simp at hd
        obtain ⟨rfl, rfl⟩ := hd
        refine ⟨trivial, fun nx2 hn2 => ?_⟩
        have gt : atI (sqs b i) (t : Int) = some (.int ((b ^ 2 ^ t : Nat) : Int)) := by rw [at_nat, sqs_get (by omega)]
        unfold ir_digits_in_b3
        simp only [tg_nm, List.set_cons_succ, List.set_cons_zero, ss_cons, ss_nil, s_ite, t_cmp, e_idx, e_var, List.getElem?_cons_zero, List.getElem?_cons_succ, opt_s, idx_ref, lsM_put, gt, cmp_le, chn_bl, cast_le]
        by_cases hle2 : b ^ 2 ^ t ≤ m
        · simp only [hle2, decide_true, if_true]
          have hp : 0 < b ^ 2 ^ t := Nat.pow_pos (by omega)
          have dv : CDv (m : Int) ((b ^ 2 ^ t : Nat) : Int) := cdv (by omega) (by have : b ^ 2 ^ t < 2 ^ 9000 := Nat.lt_of_le_of_lt hle2 (pow_mono hms (by decide)); simpa using this)
          have cs : CShl 1 (t : Int) := ⟨by omega, by
            have : Builtin.Int.intBits 1 = 1 := by decide
            rw [this]; omega⟩
          simp only [ss_cons, ss_nil, s_aug, e_bin, e_idx, e_var, e_cst, List.getElem?_cons_zero, List.getElem?_cons_succ, opt_s, idx_ref, lsM_put, gt, aug_div, aug_add, List.set_cons_succ, List.set_cons_zero, bin_shl]
          refine ⟨dv, cs, ?_⟩
          refine hn2 _ _ ⟨t, m / b ^ 2 ^ t, f + 2 ^ t, some (.int t), by omega, rfl, ?_, rfl, ?_, ?_, ?_⟩
          · rw [fdiv_nat]
            simp
          · rw [Nat.div_lt_iff_lt_mul hp, sq_pow]; exact hm
          · exact Nat.lt_of_le_of_lt (Nat.div_le_self _ _) hms
          · intro k hk
            have := hdg _ (dg_step hb2' hle2 hk)
            have e4 : k + (f + 2 ^ t) = k + 2 ^ t + f := by omega
            rw [e4]; exact this
        · simp only [hle2, decide_false]
          exact hn2 _ _ ⟨t, m, f, some (.int t), by omega, rfl, rfl, rfl, by omega, hms, hdg⟩
      · rintro δ M' ⟨t, m, f, o, ht, hd, rfl, rfl, hm, hms, hdg⟩
        rcases t with _ | t
        · refine ⟨trivial, ?_⟩
          have hm' : m < b := by simpa using hm
          have fin := hdg _ (dg_last hm')
          have := h _ fin
          simp
          split
          · rename_i q
            rw [if_pos q] at this
            refine ⟨M, Mem.le_put hp, ?_⟩
            rw [Int.add_comm]
            simpa using this
          · rename_i q
            rw [if_neg q] at this
            refine ⟨M, Mem.le_put hp, ?_⟩
            simpa using this
        · rw [show ((t + 1 : Nat) : Int) - 1 = (t : Int) by omega, rngD_down] at hd; cases hd
      · rw [show ((i + 1 : Nat) : Int) - 1 = (i : Int) by omega, rngD_down]
      · have : b ^ 2 ^ i ≤ b ^ 2 ^ (i + 1) := Nat.pow_le_pow_right (by omega) (Nat.pow_le_pow_right (by decide) (by omega))
        omega
  · exact h.elim
end
end U
end
section
set_option maxHeartbeats 4000000
namespace U
open PySem PySem.Spec PyProof.Rows L2 DL
@[simp] theorem ok_int {k : Nat} {i : Int} : okD k (.int i) = true := by cases k <;> rfl
@[simp] theorem ok_bl {k : Nat} {i : Bool} : okD k (.bl i) = true := by cases k <;> rfl
@[simp] theorem ok_str {k : Nat} {i : Str} : okD k (.str i) = true := by cases k <;> rfl
@[simp] theorem ok_non {k : Nat} : okD k .non = true := by cases k <;> rfl
@[simp] theorem ok_tup {k : Nat} {xs : List D} : okD (k + 1) (.tup xs) = (decide (xs.length ≤ 4000000) && xs.all (okD k)) := rfl
@[simp] theorem ok_lst {k : Nat} {xs : List D} : okD (k + 1) (.lst xs) = (decide (xs.length ≤ 4000000) && xs.all (okD k)) := rfl
@[simp] theorem ok_rt {k : Nat} {q : Rat} : okD (k + 1) (rt q) = true := by simp [rt]
section
variable {Γ : List DSp} {xm : Nat → Nat → Option Bool} {ds : List D} {M : Mem} {Q : QD} {E : XD} {W : WD} {Dn : En} {a b c d : Int}
@[simp] theorem same_q {k : Nat} {x y : D} : φ_law_same k [x, y] M Q E = (x = y ∧ okD k x = true ∧ Q (.bl true) M) := rfl
@[simp] theorem rt_injs {p q : Rat} : (rt p = rt q) = (p = q) := propext rt_inj
@[simp] theorem plus_s {x y : Rat} : φ_plus [rt x, rt y] M Q E = (Sz 4000 x ∧ Sz 4000 y ∧ Q (rt (x + y)) M) := bin2_s
@[simp] theorem minus_s {x y : Rat} : φ_minus [rt x, rt y] M Q E = (Sz 4000 x ∧ Sz 4000 y ∧ Q (rt (x - y)) M) := bin2_s
@[simp] theorem times_s {x y : Rat} : φ_times [rt x, rt y] M Q E = (Sz 4000 x ∧ Sz 4000 y ∧ Q (rt (x * y)) M) := by
  show ((x.den : Int) ≠ 0 ∧ (y.den : Int) ≠ 0 ∧ x.num.natAbs < 2 ^ 4000 ∧ (x.den : Int).natAbs < 2 ^ 4000 ∧ y.num.natAbs < 2 ^ 4000 ∧ (y.den : Int).natAbs < 2 ^ 4000 ∧ Q (rt (Rat.divInt x.num x.den * Rat.divInt y.num y.den)) M) = _
  rw [Rat.num_divInt_den, Rat.num_divInt_den, Int.natAbs_natCast, Int.natAbs_natCast]
  have h1 := den_ne x
  have h2 := den_ne y
  unfold Sz
  exact propext ⟨fun ⟨_, _, a, b, c, d, h⟩ => ⟨⟨a, b⟩, ⟨c, d⟩, h⟩, fun ⟨⟨a, b⟩, ⟨c, d⟩, h⟩ => ⟨h1, h2, a, b, c, d, h⟩⟩
@[simp] theorem order_s {x y : Rat} : φ_order [rt x, rt y] M Q E = (Sz 4000 x ∧ Sz 4000 y ∧ Q (.int (cmpR x y)) M) := bin2_s
@[simp] theorem below_s {x y : Rat} : φ_below [rt x, rt y] M Q E = (Sz 4000 x ∧ Sz 4000 y ∧ Q (.bl (decide (x < y))) M) := bin2_s
@[simp] theorem at_most_s {x y : Rat} : φ_at_most [rt x, rt y] M Q E = (Sz 4000 x ∧ Sz 4000 y ∧ Q (.bl (decide (x ≤ y))) M) := bin2_s
@[simp] theorem against_s {x : Rat} : φ_against [rt x] M Q E = (Sz 8000 x ∧ Q (rt (-x)) M) := un1_s
@[simp] theorem sized_s {x : Rat} : φ_sized [rt x] M Q E = (Sz 8000 x ∧ Q (rt (ab x)) M) := un1_s
@[simp] theorem floor_s {x : Rat} : φ_floor [rt x] M Q E = (Sz 8000 x ∧ Q (.int x.floor) M) := un1_s
@[simp] theorem ceiling_s {x : Rat} : φ_ceiling [rt x] M Q E = (Sz 8000 x ∧ Q (.int x.ceil) M) := un1_s
theorem dlt (hb : 0 < b) (hd : 0 < d) : Rat.divInt a b < Rat.divInt c d ↔ a * d < c * b := by
  have hb' : (0 : Rat) < (b : Rat) := Rat.intCast_pos.mpr hb
  have hd' : (0 : Rat) < (d : Rat) := Rat.intCast_pos.mpr hd
  rw [Rat.divInt_eq_div, Rat.divInt_eq_div, Rat.div_lt_iff hb']
  have : (c : Rat) / d * b = (c * b) / d := by grind
  rw [this, Rat.lt_div_iff hd']
  constructor
  · intro h; exact_mod_cast h
  · intro h; exact_mod_cast h
theorem dle (hb : 0 < b) (hd : 0 < d) : Rat.divInt a b ≤ Rat.divInt c d ↔ a * d ≤ c * b := by
  rw [← Rat.not_lt, dlt hd hb, Int.not_lt]
theorem int_div (x : Int) : Rat.divInt x 1 = (x : Rat) := by rw [Rat.divInt_eq_div, Rat.intCast_one]; grind
theorem int_le (hb : 0 < b) {x : Int} : (x : Rat) ≤ Rat.divInt a b ↔ x * b ≤ a := by
  rw [← int_div, dle (by decide) hb]; simp
theorem floor_lo (hb : 0 < b) : (Rat.divInt a b).floor * b ≤ a := (int_le hb).mp (Rat.le_floor_iff.mp (Int.le_refl _))
theorem floor_hi (hb : 0 < b) : a < ((Rat.divInt a b).floor + 1) * b := by
  have h : ¬ ((Rat.divInt a b).floor + 1 ≤ (Rat.divInt a b).floor) := by omega
  rw [Rat.le_floor_iff, int_le hb] at h
  omega
theorem ceil_v (hb : 0 < b) : (Rat.divInt a b).ceil = if (Rat.divInt a b).floor * b = a then (Rat.divInt a b).floor else (Rat.divInt a b).floor + 1 := by
  split
  · rename_i h
    have : Rat.divInt a b = ((Rat.divInt a b).floor : Rat) := by
      conv => lhs; rw [← h]
      rw [← int_div, Rat.divInt_eq_divInt_iff (by omega) (by decide)]
      omega
    conv => lhs; rw [this]
    exact Rat.ceil_intCast _
  · rename_i h
    have h1 : (Rat.divInt a b).ceil ≤ (Rat.divInt a b).floor + 1 := Rat.ceil_le_iff.mpr (Rat.le_of_lt (Rat.lt_floor_add_one _))
    have h2 : ¬ (Rat.divInt a b).ceil ≤ (Rat.divInt a b).floor := by
      rw [Rat.ceil_le_iff]
      intro h3
      have h4 := Rat.le_antisymm h3 (Rat.floor_le _)
      rw [← int_div, Rat.divInt_eq_divInt_iff (by omega) (by decide)] at h4
      omega
    omega
theorem for_cons {st : D → WpS} {ch : Mem → Prop} {x : D} {xs : List D} {δ : Ev} : forGo st ch Dn (x :: xs) δ M = (ch M ∧ st x { nx := forGo st ch Dn xs, ct := forGo st ch Dn xs, bk := Dn.nx, rt := Dn.rt } δ M) := rfl
end
end U
end
section
set_option maxHeartbeats 2000000
namespace U
open PySem PySem.Spec PyProof.Rows L2 DL
/-! ### formats, modes, values -/
structure Fm where
  B : Nat
  p : Nat
  L : Int
  H : Int
  tiny : Bool
def fmD (F : Fm) : D := .tup [.int F.B, .int F.p, .int F.L, .int F.H, .bl F.tiny]
/-- a format whose numbers are not too great to be reckoned with here -/
structure Fm.ok (F : Fm) : Prop where
  b2 : 2 ≤ F.B
  b16 : F.B ≤ 16
  p1 : 1 ≤ F.p
  p2 : F.p ≤ 60
  l1 : -400 ≤ F.L
  lh : F.L ≤ F.H
  h2 : F.H ≤ 150
inductive Md where
  | even | away | up | down | zero | odd
deriving DecidableEq
def Md.nm : Md → Str
  | .even => "even"
  | .away => "away"
  | .up => "up"
  | .down => "down"
  | .zero => "zero"
  | .odd => "odd"
def mdD (m : Md) : D := .str m.nm
inductive Va where
  | nan | zero (s : Int) | inf (s : Int) | num (s : Int) (m : Nat) (e : Int)
deriving DecidableEq
def vaD : Va → D
  | .nan => .tup [.str "nan"]
  | .zero s => .tup [.str "zero", .int s]
  | .inf s => .tup [.str "inf", .int s]
  | .num s m e => .tup [.str "num", .int s, .int m, .int e]
def Va.kind : Va → Str
  | .nan => "nan"
  | .zero _ => "zero"
  | .inf _ => "inf"
  | .num _ _ _ => "num"
def sgn (s : Int) : Prop := s = 1 ∨ s = -1
/-- the least number with all digits; the first with one digit more -/
def Fm.full (F : Fm) : Nat := F.B ^ (F.p - 1)
def Fm.top (F : Fm) : Nat := F.B ^ F.p
def Va.ok (F : Fm) : Va → Prop
  | .nan => True
  | .zero s => sgn s
  | .inf s => sgn s
  | .num s m e => sgn s ∧ F.L ≤ e ∧ e ≤ F.H ∧ 1 ≤ m ∧ m < F.top ∧ (F.full ≤ m ∨ (F.tiny = true ∧ e = F.L))
def Va.val (F : Fm) : Va → Rat
  | .num s m e => (s * m : Int) * pw F.B e
  | _ => 0
section
variable {F : Fm} {M : Mem} {Q : QD} {m : Md} {v : Va} {k : Bool → Prop}
theorem Fm.ok.full_pos (h : F.ok) : 0 < F.full := Nat.pow_pos (by have := h.b2; omega)
theorem Fm.ok.top_eq (h : F.ok) : F.top = F.full * F.B := by
  unfold Fm.top Fm.full
  rw [← Nat.pow_succ]
  congr 1
  have := h.p1; omega
theorem Fm.ok.top_gt (h : F.ok) : F.full < F.top := by
  rw [h.top_eq]
  have h1 := h.full_pos
  have h2 := h.b2
  have : F.full * 2 ≤ F.full * F.B := Nat.mul_le_mul_left _ h2
  omega
theorem Fm.ok.b_lt (h : F.ok) : F.B ≤ 2 ^ 4 := h.b16
theorem Fm.ok.top_lt (h : F.ok) : F.top ≤ 2 ^ 240 := by
  unfold Fm.top
  calc F.B ^ F.p ≤ (2 ^ 4) ^ F.p := Nat.pow_le_pow_left h.b_lt _
    _ = 2 ^ (4 * F.p) := by rw [← Nat.pow_mul]
    _ ≤ 2 ^ 240 := Nat.pow_le_pow_right (by decide) (by have := h.p2; omega)
theorem Fm.ok.rs (h : F.ok) {e : Int} (h0 : 0 ≤ e) (h1 : e ≤ 5000) : RsOk F.B e := ⟨h0, 4, by have := h.b_lt; simpa using this, by omega⟩
-- the data's pieces
@[simp] theorem idx_fm0 : wIdx (fmD F) (.int 0) M Q = Q (.int F.B) M := rfl
@[simp] theorem idx_fm1 : wIdx (fmD F) (.int 1) M Q = Q (.int F.p) M := rfl
@[simp] theorem idx_fm2 : wIdx (fmD F) (.int 2) M Q = Q (.int F.L) M := rfl
@[simp] theorem idx_fm3 : wIdx (fmD F) (.int 3) M Q = Q (.int F.H) M := rfl
@[simp] theorem idx_fm4 : wIdx (fmD F) (.int 4) M Q = Q (.bl F.tiny) M := rfl
@[simp] theorem len_fm : wBlt .len [fmD F] M Q = Q (.int 5) M := rfl
@[simp] theorem ty_fm : tyM M (fmD F) = some "tuple" := rfl
@[simp] theorem sq_fm : sqM M (fmD F) = some [.int F.B, .int F.p, .int F.L, .int F.H, .bl F.tiny] := rfl
@[simp] theorem ty_md : tyM M (mdD m) = some "str" := rfl
@[simp] theorem ty_va : tyM M (vaD v) = some "tuple" := by cases v <;> rfl
@[simp] theorem idx_va0 : wIdx (vaD v) (.int 0) M Q = Q (.str v.kind) M := by cases v <;> rfl
theorem fm_inj {F G : Fm} : fmD F = fmD G ↔ F = G := by
  constructor
  · intro h
    cases F; cases G
    simp [fmD] at h ⊢
    obtain ⟨h1, h2, h3, h4, h5⟩ := h
    exact ⟨by omega, by omega, h3, h4, h5⟩
  · rintro rfl; rfl
theorem md_inj {a b : Md} : mdD a = mdD b ↔ a = b := by
  constructor
  · intro h
    cases a <;> cases b <;> first | rfl | (exfalso; revert h; unfold mdD Md.nm; intro h; injection h with h; revert h; decide +kernel)
  · rintro rfl; rfl
theorem va_inj {a b : Va} : vaD a = vaD b ↔ a = b := by
  constructor
  · intro h
    have n1 : ("zero" : Str) ≠ "inf" := by decide +kernel
    cases a <;> cases b <;> simp [vaD] at h ⊢
    · exact h
    · exact absurd h.1 n1
    · exact absurd h.1.symm n1
    · exact h
    · exact ⟨h.1, by omega, h.2.2⟩
  · rintro rfl; rfl
@[simp] theorem fm_injs {F G : Fm} : (fmD F = fmD G) = (F = G) := propext fm_inj
@[simp] theorem md_injs {a b : Md} : (mdD a = mdD b) = (a = b) := propext md_inj
@[simp] theorem va_injs {a b : Va} : (vaD a = vaD b) = (a = b) := propext va_inj
end
end U
end
section
set_option maxHeartbeats 2000000
namespace U
open PySem PySem.Spec PyProof.Rows L2 DL
section
variable {Γ : List DSp} {xm : Nat → Nat → Option Bool} {ds : List D} {M : Mem} {Q : QD} {E : XD} {F : Fm} {v : Va} {m : Md}
/-- a contract about a format -/
def onF (p : Fm → Prop) (d : D) : Prop := ∃ F, d = fmD F ∧ F.ok ∧ p F
@[simp] theorem onF_fm {p : Fm → Prop} : onF p (fmD F) = (F.ok ∧ p F) := propext ⟨fun ⟨G, e, h⟩ => by rw [fm_inj] at e; subst e; exact h, fun h => ⟨F, rfl, h⟩⟩
def onM (p : Md → Prop) (d : D) : Prop := ∃ m, d = mdD m ∧ p m
@[simp] theorem onM_md {p : Md → Prop} : onM p (mdD m) = p m := propext ⟨fun ⟨G, e, h⟩ => by rw [md_inj] at e; subst e; exact h, fun h => ⟨m, rfl, h⟩⟩
def onV (p : Va → Prop) (d : D) : Prop := ∃ v, d = vaD v ∧ p v
@[simp] theorem onV_va {p : Va → Prop} : onV p (vaD v) = p v := propext ⟨fun ⟨G, e, h⟩ => by rw [va_inj] at e; subst e; exact h, fun h => ⟨v, rfl, h⟩⟩
def φ_is_format : DSp := fun l M Q _ => match l with
  | [d] => onF (fun _ => Q (.bl true) M) d
  | _ => False
theorem b_is_format (g : Γ[0]? = some φ_is_whole) (h : φ_is_format ds M Q E) : dSs Γ xm ir_is_format (endW E) (endS Q) (startD 7 ds) M := by
  unfold φ_is_format at h
  split at h
  · obtain ⟨F, rfl, ok, h⟩ := h
    have h1 := ok.b2; have h2 := ok.b16; have h3 := ok.p1; have h4 := ok.p2; have h5 := ok.l1; have h6 := ok.lh; have h7 := ok.h2
    unfold ir_is_format
    have c4 : cutD [D.int F.B, .int F.p, .int F.L, .int F.H, .bl F.tiny] none (some 4) = [.int F.B, .int F.p, .int F.L, .int F.H] := cut_to 4
    have sl : ∀ M Q, wSlc (fmD F) none (some 4) M Q = Q (.tup [.int F.B, .int F.p, .int F.L, .int F.H]) M := fun M Q => by
      show Q (.tup (cutD [D.int F.B, .int F.p, .int F.L, .int F.H, .bl F.tiny] none (some 4))) M = _
      rw [c4]
    simp [startD, sl]
    intro _ p hp
    refine lc_map (g := fun _ => .bl true) hp (fun _ => by simp) _ (fun d hd acc' k hk => ?_) (by simp [sizeLine]) ?_
    · unfold ir_is_format_e1
      have : ∃ i, d = .int i := by
        simp at hd
        rcases hd with rfl | rfl | rfl | rfl <;> exact ⟨_, rfl⟩
      obtain ⟨i, rfl⟩ := this
      simp [wipeD, g]
      exact hk
    · have e1 : (2 : Int) ≤ F.B := by omega
      have e2 : (F.B : Int) ≤ 16 := by omega
      have e3 : (1 : Int) ≤ F.p := by omega
      have e4 : (F.p : Int) ≤ 120 := by omega
      have e5 : (-5000 : Int) ≤ F.L := by omega
      have e7 : F.H ≤ 5000 := by omega
      simp [blsD, e1, e2, e3, e4, e5, h6, e7]
      exact ends_rt h
  · exact h.elim
def φ_look_at_format : DSp := fun l M Q _ => match l with
  | [d] => onF (fun _ => Q .non M) d
  | _ => False
@[simp] theorem look_at_format_s : φ_look_at_format [fmD F] M Q E = (F.ok ∧ Q .non M) := onF_fm
theorem b_look_at_format (g : Γ[27]? = some φ_is_format) (h : φ_look_at_format ds M Q E) : dSs Γ xm ir_look_at_format (endW E) (endS Q) (startD 1 ds) M := by
  unfold φ_look_at_format at h
  split at h
  · obtain ⟨F, rfl, ok, h⟩ := h
    unfold ir_look_at_format
    simp [startD, g, φ_is_format, ok]
    exact ends_nx h
  · exact h.elim
def φ_is_mode : DSp := fun l M Q _ => match l with
  | [d] => onM (fun _ => Q (.bl true) M) d
  | _ => False
theorem b_is_mode (h : φ_is_mode ds M Q E) : dSs Γ xm ir_is_mode (endW E) (endS Q) (startD 1 ds) M := by
  unfold φ_is_mode at h
  split at h
  · obtain ⟨m, rfl, h⟩ := h
    unfold ir_is_mode
    have e : (eqF (.str "even") (mdD m) || (eqF (.str "away") (mdD m) || (eqF (.str "up") (mdD m) || (eqF (.str "down") (mdD m) || (eqF (.str "zero") (mdD m) || eqF (.str "odd") (mdD m)))))) = true := by cases m <;> decide +kernel
    simp [startD]
    rw [in_tup (show flatD (mdD m) = true from rfl) rfl]
    simp only [List.any_cons, List.any_nil, Bool.or_false]
    refine ends_rt ?_
    rw [e]
    exact h
  · exact h.elim
def φ_look_at_mode : DSp := fun l M Q _ => match l with
  | [d] => onM (fun _ => Q .non M) d
  | _ => False
@[simp] theorem look_at_mode_s : φ_look_at_mode [mdD m] M Q E = Q .non M := onM_md
theorem b_look_at_mode (g : Γ[29]? = some φ_is_mode) (h : φ_look_at_mode ds M Q E) : dSs Γ xm ir_look_at_mode (endW E) (endS Q) (startD 1 ds) M := by
  unfold φ_look_at_mode at h
  split at h
  · obtain ⟨m, rfl, h⟩ := h
    unfold ir_look_at_mode
    simp [startD, g, φ_is_mode]
    exact ends_nx h
  · exact h.elim
def φ_full : DSp := fun l M Q _ => match l with
  | [d] => onF (fun F => Q (.int F.full) M) d
  | _ => False
def φ_above : DSp := fun l M Q _ => match l with
  | [d] => onF (fun F => Q (.int F.top) M) d
  | _ => False
@[simp] theorem full_s : φ_full [fmD F] M Q E = (F.ok ∧ Q (.int F.full) M) := onF_fm
@[simp] theorem above_s : φ_above [fmD F] M Q E = (F.ok ∧ Q (.int F.top) M) := onF_fm
theorem b_full (g : Γ[18]? = some φ_raised) (h : φ_full ds M Q E) : dSs Γ xm ir_full (endW E) (endS Q) (startD 1 ds) M := by
  unfold φ_full at h
  split at h
  · obtain ⟨F, rfl, ok, h⟩ := h
    have h1 := ok.p1; have h2 := ok.p2
    unfold ir_full
    simp [startD, g]
    refine ⟨ok.rs (by omega) (by omega), ends_rt ?_⟩
    simpa [Fm.full] using h
  · exact h.elim
theorem b_above (g : Γ[18]? = some φ_raised) (h : φ_above ds M Q E) : dSs Γ xm ir_above (endW E) (endS Q) (startD 1 ds) M := by
  unfold φ_above at h
  split at h
  · obtain ⟨F, rfl, ok, h⟩ := h
    have h1 := ok.p1; have h2 := ok.p2
    unfold ir_above
    simp [startD, g]
    refine ⟨ok.rs (by omega) (by omega), ends_rt ?_⟩
    simpa [Fm.top] using h
  · exact h.elim
/-- how many numbers above nought a format has -/
def Fm.many (F : Fm) : Int := (F.H - F.L + 1) * ((F.top : Int) - F.full) + (if F.tiny = true then (F.full : Int) - 1 else 0)
def φ_how_many : DSp := fun l M Q _ => match l with
  | [d] => onF (fun F => Q (.int F.many) M) d
  | _ => False
@[simp] theorem how_many_s : φ_how_many [fmD F] M Q E = (F.ok ∧ Q (.int F.many) M) := onF_fm
theorem small_mul {a b : Int} (h : -(2 ^ 64) < a ∧ a < 2 ^ 64) : IntMulOk a b := .of_left (intBits_le_64 h.1 h.2)
theorem b_how_many (g1 : Γ[28]? = some φ_look_at_format) (g2 : Γ[31]? = some φ_full) (g3 : Γ[32]? = some φ_above) (h : φ_how_many ds M Q E) : dSs Γ xm ir_how_many (endW E) (endS Q) (startD 6 ds) M := by
  unfold φ_how_many at h
  split at h
  · obtain ⟨F, rfl, ok, h⟩ := h
    have h1 := ok.l1; have h2 := ok.lh; have h3 := ok.h2
    have mo : IntMulOk (F.H - F.L + 1) ((F.top : Int) - F.full) := small_mul (by omega)
    unfold ir_how_many
    cases ht : F.tiny with
    | true =>
      simp [startD, g1, g2, g3, ok, mo, ht]
      exact ends_rt (by simpa [Fm.many, ht] using h)
    | false =>
      simp [startD, g1, g2, g3, ok, mo, ht]
      exact ends_rt (by simpa [Fm.many, ht] using h)
  · exact h.elim
end
end U
end
namespace DL
open PySem PySem.Spec PyProof.Rows L2
/-! ### equality of data: tuples and lists of numbers, texts, None -/
def datB : Nat → D → Bool
  | _, .non => true
  | _, .int _ => true
  | _, .str s => PyData.canLay0 (.str s)
  | k + 1, .tup xs => xs.all (datB k)
  | k + 1, .lst xs => xs.all (datB k)
  | _, _ => false
theorem dat_py : ∀ (k : Nat) (d : D), datB k d = true → ∃ p, pyD d = some p ∧ PyData.canLay0 p = true ∧ p.depth ≤ k + 1 := by
  intro k
  induction k with
  | zero =>
    intro d h
    cases d with
    | non => exact ⟨_, rfl, rfl, by simp [PyData.depth]⟩
    | int i => exact ⟨_, rfl, rfl, by simp [PyData.depth]⟩
    | str s => exact ⟨_, rfl, h, by simp [PyData.depth]⟩
    | _ => cases h
  | succ k ih =>
    have all : ∀ xs : List D, xs.all (datB k) = true → ∃ ps, pyDs xs = some ps ∧ PyData.canLayAll0 ps = true ∧ PyData.depthAll ps ≤ k + 1 := by
      intro xs
      induction xs with
      | nil => intro _; exact ⟨[], rfl, rfl, by simp [PyData.depthAll]⟩
      | cons x xs ihx =>
        intro h
        rw [List.all_cons, Bool.and_eq_true] at h
        obtain ⟨p, h1, h2, h3⟩ := ih x h.1
        obtain ⟨ps, g1, g2, g3⟩ := ihx h.2
        refine ⟨p :: ps, by unfold pyDs; rw [h1, g1], by unfold PyData.canLayAll0; rw [h2, g2]; rfl, ?_⟩
        unfold PyData.depthAll
        omega
    intro d h
    cases d with
    | non => exact ⟨_, rfl, rfl, by simp [PyData.depth]⟩
    | int i => exact ⟨_, rfl, rfl, by simp [PyData.depth]⟩
    | str s => exact ⟨_, rfl, h, by simp [PyData.depth]⟩
    | tup xs =>
      obtain ⟨ps, g1, g2, g3⟩ := all xs h
      exact ⟨.tuple ps, by unfold pyD; rw [g1]; rfl, g2, by unfold PyData.depth; omega⟩
    | lst xs =>
      obtain ⟨ps, g1, g2, g3⟩ := all xs h
      exact ⟨.list ps, by unfold pyD; rw [g1]; rfl, g2, by unfold PyData.depth; omega⟩
    | _ => cases h
theorem dat_eq : ∀ (k : Nat) (x y : D) (p q : PyData), datB k x = true → datB k y = true → pyD x = some p → pyD y = some q → (PyData.eqv p q = true ↔ x = y) := by
  intro k
  induction k with
  | zero =>
    intro x y p q hx hy e1 e2
    cases x <;> cases y <;> first | (cases hx; done) | (cases hy; done) | (cases e1; cases e2; simp [PyData.eqv]; done)
  | succ k ih =>
    have all : ∀ (xs ys : List D) (ps qs : List PyData), xs.all (datB k) = true → ys.all (datB k) = true → pyDs xs = some ps → pyDs ys = some qs → (PyData.eqvAll ps qs = true ↔ xs = ys) := by
      intro xs
      induction xs with
      | nil =>
        intro ys ps qs _ _ e1 e2
        cases e1
        cases ys with
        | nil => cases e2; simp [PyData.eqvAll]
        | cons y ys =>
          unfold pyDs at e2
          split at e2
          · cases e2; simp [PyData.eqvAll]
          · cases e2
      | cons x xs ihx =>
        intro ys ps qs h1 h2 e1 e2
        rw [List.all_cons, Bool.and_eq_true] at h1
        unfold pyDs at e1
        split at e1
        · rename_i p ps' a1 a2
          cases e1
          cases ys with
          | nil => cases e2; simp [PyData.eqvAll]
          | cons y ys =>
            rw [List.all_cons, Bool.and_eq_true] at h2
            unfold pyDs at e2
            split at e2
            · rename_i q qs' b1 b2
              cases e2
              unfold PyData.eqvAll
              rw [Bool.and_eq_true, ih x y p q h1.1 h2.1 a1 b1, ihx ys ps' qs' h1.2 h2.2 a2 b2, List.cons.injEq]
            · cases e2
        · cases e1
    have tl : ∀ {xs : List D} {f : List PyData → PyData} {p : PyData}, (pyDs xs).map f = some p → ∃ ps, pyDs xs = some ps ∧ p = f ps := by
      intro xs f p e
      cases h : pyDs xs with
      | none => rw [h] at e; cases e
      | some ps => rw [h] at e; cases e; exact ⟨ps, rfl, rfl⟩
    intro x y p q hx hy e1 e2
    cases x with
    | non => cases y <;> first | (cases hy; done) | (cases e1; cases e2; simp [PyData.eqv]; done) | (cases e1; obtain ⟨ps, _, rfl⟩ := tl e2; simp [PyData.eqv])
    | int i => cases y <;> first | (cases hy; done) | (cases e1; cases e2; simp [PyData.eqv]; done) | (cases e1; obtain ⟨ps, _, rfl⟩ := tl e2; simp [PyData.eqv])
    | str i => cases y <;> first | (cases hy; done) | (cases e1; cases e2; simp [PyData.eqv]; done) | (cases e1; obtain ⟨ps, _, rfl⟩ := tl e2; simp [PyData.eqv])
    | tup xs =>
      obtain ⟨ps, g1, rfl⟩ := tl e1
      cases y with
      | tup ys =>
        obtain ⟨qs, g2, rfl⟩ := tl e2
        unfold PyData.eqv
        rw [all xs ys ps qs hx hy g1 g2, D.tup.injEq]
      | lst ys => obtain ⟨qs, g2, rfl⟩ := tl e2; simp [PyData.eqv]
      | non => cases e2; simp [PyData.eqv]
      | int i => cases e2; simp [PyData.eqv]
      | str i => cases e2; simp [PyData.eqv]
      | _ => cases hy
    | lst xs =>
      obtain ⟨ps, g1, rfl⟩ := tl e1
      cases y with
      | lst ys =>
        obtain ⟨qs, g2, rfl⟩ := tl e2
        unfold PyData.eqv
        rw [all xs ys ps qs hx hy g1 g2, D.lst.injEq]
      | tup ys => obtain ⟨qs, g2, rfl⟩ := tl e2; simp [PyData.eqv]
      | non => cases e2; simp [PyData.eqv]
      | int i => cases e2; simp [PyData.eqv]
      | str i => cases e2; simp [PyData.eqv]
      | _ => cases hy
    | _ => cases hx
section
variable {M : Mem} {k : Bool → Prop} {x y : D} {xs ys : List D}
theorem dat_rd {n : Nat} (h : datB n x = true) : rdM M x = x := by
  cases x <;> first | rfl | (cases n <;> cases h)
theorem eq_gen {p q : PyData} (h1 : pyD (rdM M (.tup xs)) = some p) (h2 : pyD (rdM M y) = some q) (h3 : SeqAt.shaped p = true) (h4 : SeqAt.shaped q = true) (h : k (PyData.eqv p q)) : wEq (.tup xs) y M k := ⟨p, q, h1, h2, h3, h4, h⟩
/-- x == y, x a tuple of data -/
theorem eq_dat {b : Bool} (hx : datB 20 (.tup xs) = true) (hy : datB 20 y = true) (hb : b = true ↔ D.tup xs = y) (h : k b) : wEq (.tup xs) y M k := by
  obtain ⟨p, a1, a2, a3⟩ := dat_py 20 _ hx
  obtain ⟨q, b1, b2, b3⟩ := dat_py 20 _ hy
  have e : PyData.eqv p q = b := by
    have := dat_eq 20 _ _ p q hx hy a1 b1
    rw [← hb] at this
    cases b <;> cases z : PyData.eqv p q <;> simp_all
  refine eq_gen (by rw [dat_rd hx]; exact a1) (by rw [dat_rd hy]; exact b1) ?_ ?_ (by rw [e]; exact h)
  · unfold SeqAt.shaped; rw [a2, decide_eq_true (by omega)]; rfl
  · unfold SeqAt.shaped; rw [b2, decide_eq_true (by omega)]; rfl
theorem dats_py : ∀ {xs : List D}, xs.all (datB 20) = true → ∃ ps, pyDs xs = some ps ∧ PyData.canLayAll0 ps = true ∧ PyData.depthAll ps ≤ 21
  | [], _ => ⟨[], rfl, rfl, by simp [PyData.depthAll]⟩
  | x :: xs, h => by
    rw [List.all_cons, Bool.and_eq_true] at h
    obtain ⟨p, h1, h2, h3⟩ := dat_py 20 x h.1
    obtain ⟨ps, g1, g2, g3⟩ := dats_py h.2
    refine ⟨p :: ps, by unfold pyDs; rw [h1, g1], by unfold PyData.canLayAll0; rw [h2, g2]; rfl, ?_⟩
    unfold PyData.depthAll
    omega
theorem any_dat {x : D} {p : PyData} (hx : datB 20 x = true) (e : pyD x = some p) : ∀ {ys : List D} {ps : List PyData}, ys.all (datB 20) = true → pyDs ys = some ps → ((ps.any fun z => PyData.eqv z p) = true ↔ x ∈ ys)
  | [], ps, _, e2 => by cases e2; simp
  | y :: ys, ps, h, e2 => by
    rw [List.all_cons, Bool.and_eq_true] at h
    unfold pyDs at e2
    split at e2
    · rename_i q qs b1 b2
      cases e2
      rw [List.any_cons, Bool.or_eq_true, dat_eq 20 y x q p h.1 hx b1 e, any_dat hx e h.2 b2, List.mem_cons]
      constructor
      · rintro (z | z)
        · exact .inl z.symm
        · exact .inr z
      · rintro (z | z)
        · exact .inl z.symm
        · exact .inr z
    · cases e2
/-- x in ys, x a tuple of data, ys a tuple or list of data -/
theorem in_dat {b : Bool} {z : D} (hz : sqM M z = some ys) (hz2 : ∀ s, z ≠ .str s) (hx : datB 20 (.tup xs) = true) (hy : ys.all (datB 20) = true) (hb : b = true ↔ D.tup xs ∈ ys) (h : k b) : wIn (.tup xs) z M k := by
  have g : ∃ ds, sqM M z = some ds ∧ if (flatD (.tup xs) && ds.all flatD) = true then k (ds.any fun d => eqF d (.tup xs))
      else ∃ p ps, pyD (rdM M (.tup xs)) = some p ∧ pyDs ds = some ps ∧ SeqAt.shaped p = true ∧ SeqAt.shaped (.list ps) = true ∧ SeqAt.shaped (.tuple ps) = true ∧ k (ps.any fun z => PyData.eqv z p) := by
    refine ⟨ys, hz, ?_⟩
    rw [if_neg (by simp [flatD])]
    obtain ⟨p, a1, a2, a3⟩ := dat_py 20 _ hx
    obtain ⟨ps, b1, b2, b3⟩ := dats_py hy
    have e : (ps.any fun z => PyData.eqv z p) = b := by
      have := any_dat hx a1 hy b1
      rw [← hb] at this
      cases b <;> cases z : (ps.any fun z => PyData.eqv z p) <;> simp_all
    refine ⟨p, ps, a1, b1, ?_, ?_, ?_, by rw [e]; exact h⟩
    · unfold SeqAt.shaped; rw [a2, decide_eq_true (by omega)]; rfl
    · unfold SeqAt.shaped PyData.canLay0 PyData.depth; rw [b2, decide_eq_true (by omega)]; rfl
    · unfold SeqAt.shaped PyData.canLay0 PyData.depth; rw [b2, decide_eq_true (by omega)]; rfl
  cases z with
  | str s => exact absurd rfl (hz2 s)
  | _ => exact g
end
end DL
section
set_option maxHeartbeats 2000000
namespace U
open PySem PySem.Spec PyProof.Rows L2 DL
@[simp] theorem ne_nan_zero : (("nan" : Str) = "zero") = False := by decide +kernel
@[simp] theorem ne_nan_inf : (("nan" : Str) = "inf") = False := by decide +kernel
@[simp] theorem ne_nan_num : (("nan" : Str) = "num") = False := by decide +kernel
@[simp] theorem ne_nan_even : (("nan" : Str) = "even") = False := by decide +kernel
@[simp] theorem ne_nan_away : (("nan" : Str) = "away") = False := by decide +kernel
@[simp] theorem ne_nan_up : (("nan" : Str) = "up") = False := by decide +kernel
@[simp] theorem ne_nan_down : (("nan" : Str) = "down") = False := by decide +kernel
@[simp] theorem ne_nan_odd : (("nan" : Str) = "odd") = False := by decide +kernel
@[simp] theorem ne_zero_nan : (("zero" : Str) = "nan") = False := by decide +kernel
@[simp] theorem ne_zero_inf : (("zero" : Str) = "inf") = False := by decide +kernel
@[simp] theorem ne_zero_num : (("zero" : Str) = "num") = False := by decide +kernel
@[simp] theorem ne_zero_even : (("zero" : Str) = "even") = False := by decide +kernel
@[simp] theorem ne_zero_away : (("zero" : Str) = "away") = False := by decide +kernel
@[simp] theorem ne_zero_up : (("zero" : Str) = "up") = False := by decide +kernel
@[simp] theorem ne_zero_down : (("zero" : Str) = "down") = False := by decide +kernel
@[simp] theorem ne_zero_odd : (("zero" : Str) = "odd") = False := by decide +kernel
@[simp] theorem ne_inf_nan : (("inf" : Str) = "nan") = False := by decide +kernel
@[simp] theorem ne_inf_zero : (("inf" : Str) = "zero") = False := by decide +kernel
@[simp] theorem ne_inf_num : (("inf" : Str) = "num") = False := by decide +kernel
@[simp] theorem ne_inf_even : (("inf" : Str) = "even") = False := by decide +kernel
@[simp] theorem ne_inf_away : (("inf" : Str) = "away") = False := by decide +kernel
@[simp] theorem ne_inf_up : (("inf" : Str) = "up") = False := by decide +kernel
@[simp] theorem ne_inf_down : (("inf" : Str) = "down") = False := by decide +kernel
@[simp] theorem ne_inf_odd : (("inf" : Str) = "odd") = False := by decide +kernel
@[simp] theorem ne_num_nan : (("num" : Str) = "nan") = False := by decide +kernel
@[simp] theorem ne_num_zero : (("num" : Str) = "zero") = False := by decide +kernel
@[simp] theorem ne_num_inf : (("num" : Str) = "inf") = False := by decide +kernel
@[simp] theorem ne_num_even : (("num" : Str) = "even") = False := by decide +kernel
@[simp] theorem ne_num_away : (("num" : Str) = "away") = False := by decide +kernel
@[simp] theorem ne_num_up : (("num" : Str) = "up") = False := by decide +kernel
@[simp] theorem ne_num_down : (("num" : Str) = "down") = False := by decide +kernel
@[simp] theorem ne_num_odd : (("num" : Str) = "odd") = False := by decide +kernel
@[simp] theorem ne_even_nan : (("even" : Str) = "nan") = False := by decide +kernel
@[simp] theorem ne_even_zero : (("even" : Str) = "zero") = False := by decide +kernel
@[simp] theorem ne_even_inf : (("even" : Str) = "inf") = False := by decide +kernel
@[simp] theorem ne_even_num : (("even" : Str) = "num") = False := by decide +kernel
@[simp] theorem ne_even_away : (("even" : Str) = "away") = False := by decide +kernel
@[simp] theorem ne_even_up : (("even" : Str) = "up") = False := by decide +kernel
@[simp] theorem ne_even_down : (("even" : Str) = "down") = False := by decide +kernel
@[simp] theorem ne_even_odd : (("even" : Str) = "odd") = False := by decide +kernel
@[simp] theorem ne_away_nan : (("away" : Str) = "nan") = False := by decide +kernel
@[simp] theorem ne_away_zero : (("away" : Str) = "zero") = False := by decide +kernel
@[simp] theorem ne_away_inf : (("away" : Str) = "inf") = False := by decide +kernel
@[simp] theorem ne_away_num : (("away" : Str) = "num") = False := by decide +kernel
@[simp] theorem ne_away_even : (("away" : Str) = "even") = False := by decide +kernel
@[simp] theorem ne_away_up : (("away" : Str) = "up") = False := by decide +kernel
@[simp] theorem ne_away_down : (("away" : Str) = "down") = False := by decide +kernel
@[simp] theorem ne_away_odd : (("away" : Str) = "odd") = False := by decide +kernel
@[simp] theorem ne_up_nan : (("up" : Str) = "nan") = False := by decide +kernel
@[simp] theorem ne_up_zero : (("up" : Str) = "zero") = False := by decide +kernel
@[simp] theorem ne_up_inf : (("up" : Str) = "inf") = False := by decide +kernel
@[simp] theorem ne_up_num : (("up" : Str) = "num") = False := by decide +kernel
@[simp] theorem ne_up_even : (("up" : Str) = "even") = False := by decide +kernel
@[simp] theorem ne_up_away : (("up" : Str) = "away") = False := by decide +kernel
@[simp] theorem ne_up_down : (("up" : Str) = "down") = False := by decide +kernel
@[simp] theorem ne_up_odd : (("up" : Str) = "odd") = False := by decide +kernel
@[simp] theorem ne_down_nan : (("down" : Str) = "nan") = False := by decide +kernel
@[simp] theorem ne_down_zero : (("down" : Str) = "zero") = False := by decide +kernel
@[simp] theorem ne_down_inf : (("down" : Str) = "inf") = False := by decide +kernel
@[simp] theorem ne_down_num : (("down" : Str) = "num") = False := by decide +kernel
@[simp] theorem ne_down_even : (("down" : Str) = "even") = False := by decide +kernel
@[simp] theorem ne_down_away : (("down" : Str) = "away") = False := by decide +kernel
@[simp] theorem ne_down_up : (("down" : Str) = "up") = False := by decide +kernel
@[simp] theorem ne_down_odd : (("down" : Str) = "odd") = False := by decide +kernel
@[simp] theorem ne_odd_nan : (("odd" : Str) = "nan") = False := by decide +kernel
@[simp] theorem ne_odd_zero : (("odd" : Str) = "zero") = False := by decide +kernel
@[simp] theorem ne_odd_inf : (("odd" : Str) = "inf") = False := by decide +kernel
@[simp] theorem ne_odd_num : (("odd" : Str) = "num") = False := by decide +kernel
@[simp] theorem ne_odd_even : (("odd" : Str) = "even") = False := by decide +kernel
@[simp] theorem ne_odd_away : (("odd" : Str) = "away") = False := by decide +kernel
@[simp] theorem ne_odd_up : (("odd" : Str) = "up") = False := by decide +kernel
@[simp] theorem ne_odd_down : (("odd" : Str) = "down") = False := by decide +kernel
section
variable {Γ : List DSp} {xm : Nat → Nat → Option Bool} {ds : List D} {M : Mem} {Q : QD} {E : XD} {F : Fm} {v : Va} {m : Md}
/-- a contract about a format and a value of it -/
def onFV (p : Fm → Va → Prop) : DSp := fun l M Q E => match l with
  | [f, d] => onF (fun F => onV (fun v => v.ok F ∧ p F v) d) f
  | _ => False
theorem onFV_i {p : Fm → Va → Prop} (h : onFV p ds M Q E) : ∃ F v, ds = [fmD F, vaD v] ∧ F.ok ∧ v.ok F ∧ p F v := by
  unfold onFV at h
  split at h
  · obtain ⟨F, rfl, ok, v, rfl, h⟩ := h
    exact ⟨F, v, rfl, ok, h⟩
  · exact h.elim
@[simp] theorem onFV_s {p : Fm → Va → Prop} : onFV p [fmD F, vaD v] M Q E = (F.ok ∧ v.ok F ∧ p F v) := by simp [onFV]
def φ_is_value : DSp := fun l M Q E => match l with
  | [f, d] => onF (fun F => onV (fun v => (v.ok F ∧ Q (.bl true) M) ∨ (v = .num 1 0 0 ∧ Q (.bl false) M)) d) f
  | _ => False
@[simp] theorem is_value_s : φ_is_value [fmD F, vaD v] M Q E = (F.ok ∧ ((v.ok F ∧ Q (.bl true) M) ∨ (v = .num 1 0 0 ∧ Q (.bl false) M))) := by simp [φ_is_value]
theorem is_value_ok (ok : F.ok) (vo : v.ok F) (h : Q (.bl true) M) : φ_is_value [fmD F, vaD v] M Q E := by rw [is_value_s]; exact ⟨ok, .inl ⟨vo, h⟩⟩
theorem in_sgn {s : Int} (h : sgn s) {k : Bool → Prop} : wIn (.int s) (.tup [.int 1, .int (-1)]) M k = k true := by
  rw [in_tup rfl rfl]
  rcases h with rfl | rfl <;> rfl
theorem b_is_value (g0 : Γ[0]? = some φ_is_whole) (g1 : Γ[28]? = some φ_look_at_format) (g2 : Γ[31]? = some φ_full) (g3 : Γ[32]? = some φ_above) (h : φ_is_value ds M Q E) : dSs Γ xm ir_is_value (endW E) (endS Q) (startD 4 ds) M := by
  unfold φ_is_value at h
  split at h
  case h_2 => exact h.elim
  obtain ⟨F, rfl, ok, v, rfl, h⟩ := h
  unfold ir_is_value
  have z1 : (D.str "zero", D.str "inf") = (D.str "zero", D.str "inf") := rfl
  have inz : ∀ (s : Str) (k : Bool → Prop), wIn (.str s) (.tup [.str "zero", .str "inf"]) M k = k (eqF (.str "zero") (.str s) || eqF (.str "inf") (.str s)) := fun s k => by
    rw [in_tup rfl rfl]; simp
  rcases h with ⟨vo, h⟩ | ⟨rfl, h⟩
  case inr =>
    have z : (eqF (.str "zero") (.str "num") || eqF (.str "inf") (.str "num")) = false := by decide +kernel
    by_cases q1 : F.L ≤ 0 ∧ 0 ≤ F.H
    · simp [startD, g0, g1, g2, g3, ok, vaD, in_sgn (.inl rfl), inz, z, q1]
      exact ends_rt h
    · by_cases q2 : F.L ≤ 0
      · have q3 : ¬ 0 ≤ F.H := fun z => q1 ⟨q2, z⟩
        simp [startD, g0, g1, g2, g3, ok, vaD, in_sgn (.inl rfl), inz, z, q2, q3]
        exact ends_rt h
      · simp [startD, g0, g1, g2, g3, ok, vaD, in_sgn (.inl rfl), inz, z, q2]
        exact ends_rt h
  cases v with
  | nan =>
    simp [startD, g0, g1, ok, vaD]
    exact ends_rt h
  | zero s =>
    have e : sgn s := vo
    have z : (eqF (.str "zero") (.str "zero") || eqF (.str "inf") (.str "zero")) = true := by decide +kernel
    simp [startD, g0, g1, ok, vaD, in_sgn e, inz, z]
    exact ends_rt h
  | inf s =>
    have e : sgn s := vo
    have z : (eqF (.str "zero") (.str "inf") || eqF (.str "inf") (.str "inf")) = true := by decide +kernel
    simp [startD, g0, g1, ok, vaD, in_sgn e, inz, z]
    exact ends_rt h
  | num s m e =>
    obtain ⟨hs, h1, h2, h3, h4, h5⟩ := vo
    have z : (eqF (.str "zero") (.str "num") || eqF (.str "inf") (.str "num")) = false := by decide +kernel
    have c1 : (1 : Int) ≤ m := by omega
    have c2 : (m : Int) < F.top := by omega
    simp [startD, g0, g1, g2, g3, ok, vaD, in_sgn hs, inz, z, h1, h2, c1, c2]
    rcases h5 with h5 | ⟨h5, h6⟩
    · have c3 : (F.full : Int) ≤ m := by omega
      simp [h5]
      exact ends_rt h
    · by_cases c3 : F.full ≤ m
      · simp [c3]; exact ends_rt h
      · simp [c3, h5, h6]; exact ends_rt h
end
end U
end
section
set_option maxHeartbeats 2000000
namespace U
open PySem PySem.Spec PyProof.Rows L2 DL
section
variable {Γ : List DSp} {xm : Nat → Nat → Option Bool} {ds : List D} {M : Mem} {Q : QD} {E : XD} {F : Fm} {v : Va} {m : Md}
def φ_look_at_value : DSp := fun l M Q E => onFV (fun _ _ => Q .non M) l M Q E
@[simp] theorem look_at_value_s : φ_look_at_value [fmD F, vaD v] M Q E = (F.ok ∧ v.ok F ∧ Q .non M) := onFV_s
theorem b_look_at_value (g : Γ[37]? = some φ_is_value) (h : φ_look_at_value ds M Q E) : dSs Γ xm ir_look_at_value (endW E) (endS Q) (startD 2 ds) M := by
  replace h := onFV_i h
  obtain ⟨F, v, rfl, ok, vo, h⟩ := h
  unfold ir_look_at_value
  simp [startD, g, ok, vo]
  exact .inl (ends_nx h)
def Va.fin : Va → Bool
  | .num _ _ _ => true
  | .zero _ => true
  | _ => false
def φ_is_finite : DSp := fun l M Q E => match l with
  | [d] => onV (fun v => Q (.bl v.fin) M) d
  | _ => False
@[simp] theorem is_finite_s : φ_is_finite [vaD v] M Q E = Q (.bl v.fin) M := onV_va
theorem b_is_finite (h : φ_is_finite ds M Q E) : dSs Γ xm ir_is_finite (endW E) (endS Q) (startD 1 ds) M := by
  unfold φ_is_finite at h
  split at h
  · obtain ⟨v, rfl, h⟩ := h
    unfold ir_is_finite
    have e : (eqF (.str "num") (.str v.kind) || eqF (.str "zero") (.str v.kind)) = v.fin := by cases v <;> (simp [Va.kind, Va.fin]; decide +kernel)
    simp [startD]
    rw [in_tup rfl rfl]
    simp only [List.any_cons, List.any_nil, Bool.or_false]
    rw [e]
    exact ends_rt h
  · exact h.elim
theorem natpow_lt {B j : Nat} (h : B ≤ 2 ^ 4) : B ^ j < 2 ^ (4 * j + 1) := by
  have h1 : B ^ j ≤ (2 ^ 4) ^ j := Nat.pow_le_pow_left h j
  rw [← Nat.pow_mul] at h1
  have := Nat.pow_pos (n := 4 * j) (show 0 < 2 by decide)
  rw [Nat.pow_succ]
  omega
theorem pw_neg {b : Nat} (hb : 0 < b) {e : Int} (h : ¬ 0 ≤ e) : (pw b e).num = 1 ∧ (pw b e).den = b ^ (-e).toNat := by
  unfold pw
  rw [if_neg h]
  have := divInt_red (a := 1) (b := b ^ (-e).toNat) (Nat.pow_pos hb) (by simp)
  simpa using this
theorem pw_sz {B : Nat} (h2 : 2 ≤ B) (h : B ≤ 2 ^ 4) {e : Int} {n : Nat} (hl : -(n : Int) ≤ e) (hh : e ≤ n) : Sz (4 * n + 1) (pw B e) := by
  by_cases h0 : 0 ≤ e
  · unfold pw
    rw [if_pos h0]
    obtain ⟨j, rfl⟩ := Int.eq_ofNat_of_zero_le h0
    refine ⟨?_, ?_⟩
    · have e1 : (((B : Int) ^ (j : Int).toNat : Int) : Rat).num.natAbs = B ^ j := by
        rw [Rat.num_intCast]; simp [Int.natAbs_pow]
      rw [e1]
      exact pow_mono (natpow_lt h) (by omega)
    · rw [Rat.den_intCast]
      exact Nat.one_lt_two_pow (by omega)
  · obtain ⟨e1, e2⟩ := pw_neg (b := B) (by omega) h0
    refine ⟨?_, ?_⟩
    · rw [e1]; exact Nat.one_lt_two_pow (by omega)
    · rw [e2]; exact pow_mono (natpow_lt h) (by omega)
theorem int_sz {i : Int} {n : Nat} (h : i.natAbs < 2 ^ n) (hn : 0 < n) : Sz n (i : Rat) := ⟨by rw [Rat.num_intCast]; exact h, by rw [Rat.den_intCast]; exact Nat.one_lt_two_pow (by omega)⟩
theorem Fm.ok.pwz (ok : F.ok) {e : Int} (h1 : -500 ≤ e) (h2 : e ≤ 500) : Sz 2001 (pw F.B e) := pw_sz ok.b2 ok.b_lt (n := 500) (by omega) (by omega)
theorem RsOk.abs (ok : F.ok) {e : Int} (h1 : -500 ≤ e) (h2 : e ≤ 500) : RsOk F.B (if 0 ≤ e then e else -e) := by
  split
  · exact ok.rs (by omega) (by omega)
  · exact ok.rs (by omega) (by omega)
def φ_exact : DSp := fun l M Q E => onFV (fun F v => (v.fin = true ∧ Q (rt (v.val F)) M) ∨ (v.fin = false ∧ E 1 [] M)) l M Q E
theorem exact_s (h : v.fin = true) : φ_exact [fmD F, vaD v] M Q E = (F.ok ∧ v.ok F ∧ Q (rt (v.val F)) M) := by
  unfold φ_exact
  rw [onFV_s]
  simp [h]
theorem b_exact (g1 : Γ[38]? = some φ_look_at_value) (g2 : Γ[7]? = some φ_times) (g3 : Γ[19]? = some φ_power) (h : φ_exact ds M Q E) : dSs Γ xm ir_exact (endW E) (endS Q) (startD 2 ds) M := by
  replace h := onFV_i h
  obtain ⟨F, v, rfl, ok, vo, h⟩ := h
  unfold ir_exact
  have h1 := ok.l1; have h2 := ok.h2
  cases v with
  | nan =>
    simp [Va.fin] at h
    simp [startD, g1, g2, g3, ok, vo, Va.kind]
    exact ends_w h
  | zero s =>
    simp [Va.fin] at h
    simp [startD, g1, g2, g3, ok, vo, Va.kind, rt_01]
    exact ends_rt h
  | inf s =>
    simp [Va.fin] at h
    simp [startD, g1, g2, g3, ok, vo, Va.kind]
    exact ends_w h
  | num s m e =>
    simp [Va.fin] at h
    have vo' := vo
    obtain ⟨hs, l1, l2, l3, l4, l5⟩ := vo'
    have hsm : (s * m : Int).natAbs < 2 ^ 241 := by
      have := ok.top_lt
      rcases hs with rfl | rfl <;> simp <;> omega
    have mo : IntMulOk s m := small_mul (by rcases hs with rfl | rfl <;> decide)
    have bp : (0 : Int) < F.B := by have := ok.b2; omega
    have bp2 : 0 < F.B := by omega
    have sz := (int_sz hsm (by decide)).mono (show 241 ≤ 4000 by decide)
    simp only [Rat.intCast_mul] at sz
    have i1 : ∀ (M : Mem) (Q : QD), wIdx (vaD (.num s m e)) (.int 1) M Q = Q (.int s) M := fun _ _ => rfl
    have i2 : ∀ (M : Mem) (Q : QD), wIdx (vaD (.num s m e)) (.int 2) M Q = Q (.int m) M := fun _ _ => rfl
    have i3 : ∀ (M : Mem) (Q : QD), wIdx (vaD (.num s m e)) (.int 3) M Q = Q (.int e) M := fun _ _ => rfl
    simp [startD, g1, g2, g3, ok, vo, Va.kind, i1, i2, i3, mo, rt_int, bp, bp2, sz, RsOk.abs ok (show -500 ≤ e by omega) (by omega), (ok.pwz (show -500 ≤ e by omega) (by omega)).mono (show 2001 ≤ 4000 by decide)]
    refine ends_rt ?_
    simpa [Va.val] using h
end
end U
end
section
set_option maxHeartbeats 4000000
namespace U
open PySem PySem.Spec PyProof.Rows L2 DL
/-! ### rounding, as it is asked -/
/-- what is left behind the whole part: nothing, less than half, half, more -/
def how (y : Rat) : Int := if 2 * (y.num - y.floor * y.den) = 0 then 0 else if 2 * (y.num - y.floor * y.den) < y.den then 1 else if 2 * (y.num - y.floor * y.den) = y.den then 2 else 3
def Md.goes (md : Md) (s m h : Int) : Bool := if h = 0 then false else match md with
  | .even => decide (h = 3) || (decide (h = 2) && decide (m.fmod 2 = 1))
  | .away => decide (h = 2) || decide (h = 3)
  | .odd => decide (m.fmod 2 = 0)
  | .up => decide (s = 1)
  | .down => decide (s = -1)
  | .zero => false
def Md.out (md : Md) (s : Int) : Bool := match md with
  | .even => true
  | .away => true
  | .up => decide (s = 1)
  | .down => decide (s = -1)
  | _ => false
def Fm.far (F : Fm) (md : Md) (s : Int) : Va := if md.out s = true then .inf s else .num s (F.top - 1) F.H
inductive Fl where
  | none | inexact | under | over
deriving DecidableEq
def flD : Fl → D
  | .none => .tup []
  | .inexact => .tup [.str "inexact"]
  | .under => .tup [.str "inexact", .str "under"]
  | .over => .tup [.str "inexact", .str "over"]
def resD (r : Va × Fl) : D := .tup [vaD r.1, flD r.2]
def nearI (t h : Int) : Int := if t = -1 then (if h = 2 then 0 else if h = 3 then 1 else -1) else if t < 0 then -1 else if 0 < t ∨ h ≠ 0 then 1 else 0
def Md.lowGoes (md : Md) (s n : Int) : Bool := match md with
  | .even => decide (0 < n)
  | .away => decide (0 ≤ n)
  | .odd => true
  | .up => decide (s = 1)
  | .down => decide (s = -1)
  | .zero => false
def Fm.low (F : Fm) (md : Md) (s m h : Int) : Va × Fl := (if md.lowGoes s (nearI (2 * m - F.full) h) = true then .num s F.full F.L else .zero s, .under)
/-- how many digits a number has -/
def dgN (b : Nat) (n : Nat) : Nat := if h : n = 0 ∨ b < 2 then 0 else dgN b (n / b) + 1
termination_by n
decreasing_by exact Nat.div_lt_self (by omega) (by omega)
theorem dgN_ok {b : Nat} (hb : 2 ≤ b) : ∀ n, Dg b n (dgN b n) := by
  intro n
  induction n using Nat.strongRecOn with
  | ind n ih =>
    unfold dgN
    split
    · rename_i h
      have : n = 0 := by omega
      subst this
      exact ⟨by simp, .inl rfl⟩
    · rename_i h
      have hn : n ≠ 0 := by omega
      by_cases hl : n < b
      · rw [Nat.div_eq_of_lt hl]
        have z : dgN b 0 = 0 := by unfold dgN; simp
        rw [z]
        exact ⟨by simpa using hl, .inr (by simp; omega)⟩
      · have := ih (n / b) (Nat.div_lt_self (by omega) (by omega))
        exact dg_step (e := 1) hb (by simp; omega) (by simpa using this)
def sc (B : Nat) (x : Rat) (e : Int) : Rat := x * pw B (-e)
/-- the digits that a number has at the format's least exponent -/
def Fm.nd (F : Fm) (x : Rat) : Int := dgN F.B (sc F.B x F.L).floor.toNat
/-- the exponent that a number gets -/
def Fm.expo (F : Fm) (x : Rat) : Int := F.L + (if F.nd x - F.p > 0 then F.nd x - F.p else 0)
def Fm.up1 (F : Fm) (md : Md) (s : Int) (x : Rat) : Int := if md.goes s (sc F.B x (F.expo x)).floor (how (sc F.B x (F.expo x))) = true then (sc F.B x (F.expo x)).floor + 1 else (sc F.B x (F.expo x)).floor
def Fm.done (F : Fm) (md : Md) (s n h m e : Int) : Va × Fl :=
  if F.H < e then (F.far md s, .over) else if m = 0 then (.zero s, .under) else (.num s m.toNat e, if h = 0 then .none else if n < F.p then .under else .inexact)
/-- a number above nought, put into a format -/
def Fm.put (F : Fm) (md : Md) (s : Int) (x : Rat) : Va × Fl :=
  if F.tiny = false ∧ F.nd x < F.p then F.low md s (sc F.B x F.L).floor (how (sc F.B x F.L))
  else if F.up1 md s x = F.top then F.done md s (F.nd x) (how (sc F.B x (F.expo x))) F.full (F.expo x + 1)
  else F.done md s (F.nd x) (how (sc F.B x (F.expo x))) (F.up1 md s x) (F.expo x)
def sg (x : Rat) : Int := if 0 < x then 1 else -1
def Fm.rnd (F : Fm) (md : Md) (x : Rat) (s0 : Int) : Va × Fl := if x = 0 then (.zero s0, .none) else F.put md (sg x) (ab x)
section
variable {Γ : List DSp} {xm : Nat → Nat → Option Bool} {ds : List D} {M : Mem} {Q : QD} {E : XD} {F : Fm} {v : Va} {md : Md}
theorem Sz.mul {x y : Rat} {m n : Nat} (h1 : Sz m x) (h2 : Sz n y) : Sz (m + n) (x * y) := by
  rw [← mul_div]
  refine divInt_sz (den_mul_ne x y) ?_ ?_
  · rw [Int.natAbs_mul]; exact U.mul_lt h1.1 h2.1
  · rw [Int.natAbs_mul]; exact U.mul_lt (by simpa using h1.2) (by simpa using h2.2)
theorem pw_sz5 {B : Nat} (h2 : 2 ≤ B) (h : B ≤ 16) {e : Int} (l : -900 ≤ e) (u : e ≤ 900) : Sz 3601 (pw B e) := pw_sz h2 h (n := 900) (by omega) (by omega)
/-! ### the closure -/
def ψ_told (ds : List D) (q : D → Prop) : Prop := ∃ (e : Int) (B : Nat) (x : Rat), ds = [.int e, .int B, rt x] ∧ 2 ≤ B ∧ B ≤ 16 ∧ -900 ≤ e ∧ e ≤ 900 ∧ Sz 3900 x ∧ q (.tup [.int (sc B x e).floor, .int (how (sc B x e))])
def φ_told : DSp := fun l M Q _ => noClos l = true ∧ ψ_told l fun d => Q d M
theorem b_told (g1 : Γ[7]? = some φ_times) (g2 : Γ[16]? = some φ_floor) (g3 : Γ[19]? = some φ_power) {q : D → Prop} (h : ψ_told ds q) : dSs Γ xm ir_told_oracle_of (endW fun _ _ _ => False) (endS fun d _ => q d) (startD 6 ds) Mem.none := by
  obtain ⟨e, B, x, rfl, b2, b16, l, u, sx, h⟩ := h
  have sp : Sz 3601 (pw B (-e)) := pw_sz5 b2 b16 (by omega) (by omega)
  have sy : Sz 7501 (x * pw B (-e)) := sx.mul sp
  have bp : 0 < B := by omega
  have rs : RsOk B (if 0 ≤ -e then -e else e) := by
    split
    · exact ⟨by omega, 4, by simpa using b16, by omega⟩
    · exact ⟨by omega, 4, by simpa using b16, by omega⟩
  have m1 : IntMulOk (x * pw B (-e)).floor (x * pw B (-e)).den := by
    refine mulOk (m := 7501) (n := 7501) ?_ (by simpa using sy.2) (by decide)
    rw [← floor_f]
    have z1 := sy.1
    have z2 := (x * pw B (-e)).den_pos
    rw [Int.fdiv_eq_ediv_of_nonneg _ (by omega)]
    have := Int.natAbs_ediv_le_natAbs (x * pw B (-e)).num (x * pw B (-e)).den
    omega
  have m2 : ∀ i : Int, IntMulOk 2 i := fun i => small_mul (by decide)
  unfold ir_told_oracle_of
  simp [startD, g1, g2, g3, bp, sx.mono (show 3900 ≤ 4000 by decide), sp.mono (show 3601 ≤ 4000 by decide), sy.mono (show 7501 ≤ 8000 by decide), m1, m2]
  refine ⟨by simpa using rs, ?_⟩
  have fin : ∀ z : Int, how (sc B x e) = z → (endS fun d (_ : Mem) => q d).rt (.tup [.int (x * pw B (-e)).floor, .int z]) Mem.none := fun z hz => by subst hz; exact ends_rt h
  split
  · apply fin; unfold how sc; rw [if_pos ‹_›]
  · split
    · apply fin; unfold how sc; rw [if_neg ‹_›, if_pos ‹_›]
    · split
      · apply fin; unfold how sc; rw [if_neg ‹_›, if_neg ‹_›, if_pos ‹_›]
      · apply fin; unfold how sc; rw [if_neg ‹_›, if_neg ‹_›, if_neg ‹_›]
def φ_oracle_of : DSp := fun l M Q _ => l.length = 2 ∧ Q (.clo 45 l) M
@[simp] theorem oracle_of_s {a b : D} : φ_oracle_of [a, b] M Q E = Q (.clo 45 [a, b]) M := by simp [φ_oracle_of]
@[simp] theorem noClo_rt {q : Rat} : noClo (rt q) = true := rfl
theorem told_s {e : Int} {B : Nat} {x : Rat} (h1 : 2 ≤ B) (h2 : B ≤ 16) (l : -900 ≤ e) (u : e ≤ 900) (sx : Sz 3900 x) (h : Q (.tup [.int (sc B x e).floor, .int (how (sc B x e))]) M) : φ_told [.int e, .int B, rt x] M Q E :=
  ⟨rfl, e, B, x, rfl, h1, h2, l, u, sx, h⟩
/-! ### the small ones -/
def φ_goes_up : DSp := fun l M Q _ => match l with
  | [md, .int s, .int m, .int h] => onM (fun md => Q (.bl (md.goes s m h)) M) md
  | _ => False
@[simp] theorem goes_up_s {s m h : Int} : φ_goes_up [mdD md, .int s, .int m, .int h] M Q E = Q (.bl (md.goes s m h)) M := onM_md
theorem b_goes_up (h : φ_goes_up ds M Q E) : dSs Γ xm ir_goes_up (endW E) (endS Q) (startD 4 ds) M := by
  unfold φ_goes_up at h
  split at h
  · rename_i d s m hw
    obtain ⟨md, rfl, h⟩ := h
    unfold ir_goes_up
    have in23 : ∀ k : Bool → Prop, wIn (.int hw) (.tup [.int 2, .int 3]) M k = k (decide (hw = 2) || decide (hw = 3)) := fun k => by
      rw [in_tup rfl rfl]
      congr 1
      simp [eqF]
      by_cases h2 : hw = 2 <;> by_cases h3 : hw = 3 <;> simp [h2, h3] <;> omega
    by_cases h0 : hw = 0
    · subst h0
      simp [startD, Md.goes] at h ⊢
      exact ends_rt h
    · have h0' : ¬ (hw = 0) := h0
      cases md <;> simp [Md.goes, h0] at h <;> simp [startD, mdD, Md.nm, h0, in23]
      case even =>
        by_cases h3 : hw = 3
        · simp [h3] at h ⊢; exact ends_rt h
        · simp [h3] at h ⊢
          by_cases h2 : hw = 2
          · simp [h2] at h ⊢; exact ends_rt h
          · simp [h2] at h ⊢; exact ends_rt h
      case away => exact ends_rt h
      case odd => exact ends_rt h
      case up =>
        by_cases hs : s = 1
        · simp [hs] at h ⊢; exact ends_rt h
        · simp [hs] at h ⊢; exact ends_rt h
      case down =>
        by_cases hs : s = -1
        · simp [hs] at h ⊢; exact ends_rt h
        · simp [hs] at h ⊢; exact ends_rt h
      case zero => exact ends_rt h
  · exact h.elim
end
end U
end
section
set_option maxHeartbeats 4000000
namespace U
open PySem PySem.Spec PyProof.Rows L2 DL
section
variable {Γ : List DSp} {xm : Nat → Nat → Option Bool} {ds : List D} {M : Mem} {Q : QD} {E : XD} {F : Fm} {v : Va} {md : Md}
def φ_beyond : DSp := fun l M Q _ => match l with
  | [f, md, .int s] => onF (fun F => onM (fun md => Q (vaD (F.far md s)) M) md) f
  | _ => False
@[simp] theorem beyond_s {s : Int} : φ_beyond [fmD F, mdD md, .int s] M Q E = (F.ok ∧ Q (vaD (F.far md s)) M) := by simp [φ_beyond]
theorem b_beyond (g : Γ[32]? = some φ_above) (h : φ_beyond ds M Q E) : dSs Γ xm ir_beyond (endW E) (endS Q) (startD 3 ds) M := by
  unfold φ_beyond at h
  split at h
  · rename_i s
    obtain ⟨F, rfl, ok, md, rfl, h⟩ := h
    have tp : 1 ≤ F.top := by have := ok.top_gt; omega
    have e1 : ((F.top : Int) - 1) = ((F.top - 1 : Nat) : Int) := by omega
    have inea : ∀ (d : Str) (k : Bool → Prop), wIn (.str d) (.tup [.str "even", .str "away"]) M k = k (eqF (.str "even") (.str d) || eqF (.str "away") (.str d)) := fun d k => by
      rw [in_tup rfl rfl]; simp
    unfold ir_beyond
    cases md
    case even =>
      have z : (eqF (.str "even") (.str "even") || eqF (.str "away") (.str "even")) = true := by decide +kernel
      simp [startD, g, ok, inea, z, mdD, Md.nm]
      exact ends_rt (by simpa [Fm.far, Md.out, vaD] using h)
    case away =>
      have z : (eqF (.str "even") (.str "away") || eqF (.str "away") (.str "away")) = true := by decide +kernel
      simp [startD, g, ok, inea, z, mdD, Md.nm]
      exact ends_rt (by simpa [Fm.far, Md.out, vaD] using h)
    case up =>
      have z : (eqF (.str "even") (.str "up") || eqF (.str "away") (.str "up")) = false := by decide +kernel
      simp [startD, g, ok, inea, z, mdD, Md.nm]
      by_cases hs : s = 1
      · simp [hs]; exact ends_rt (by simpa [Fm.far, Md.out, vaD, hs] using h)
      · simp [hs]; rw [e1]; exact ends_rt (by simpa [Fm.far, Md.out, vaD, hs] using h)
    case down =>
      have z : (eqF (.str "even") (.str "down") || eqF (.str "away") (.str "down")) = false := by decide +kernel
      simp [startD, g, ok, inea, z, mdD, Md.nm]
      by_cases hs : s = -1
      · simp [hs]; exact ends_rt (by simpa [Fm.far, Md.out, vaD, hs] using h)
      · simp [hs]; rw [e1]; exact ends_rt (by simpa [Fm.far, Md.out, vaD, hs] using h)
    case zero =>
      have z : (eqF (.str "even") (.str "zero") || eqF (.str "away") (.str "zero")) = false := by decide +kernel
      simp [startD, g, ok, inea, z, mdD, Md.nm]
      rw [e1]; exact ends_rt (by simpa [Fm.far, Md.out, vaD] using h)
    case odd =>
      have z : (eqF (.str "even") (.str "odd") || eqF (.str "away") (.str "odd")) = false := by decide +kernel
      simp [startD, g, ok, inea, z, mdD, Md.nm]
      rw [e1]; exact ends_rt (by simpa [Fm.far, Md.out, vaD] using h)
  · exact h.elim
def φ_put_low : DSp := fun l M Q _ => match l with
  | [f, md, .int s, .tup [.int m, .int h]] => onF (fun F => onM (fun md => Q (resD (F.low md s m h)) M) md) f
  | _ => False
@[simp] theorem put_low_s {s m h : Int} : φ_put_low [fmD F, mdD md, .int s, .tup [.int m, .int h]] M Q E = (F.ok ∧ Q (resD (F.low md s m h)) M) := by simp [φ_put_low]
section
variable {W : WD} {a3 a4 a5 a6 a7 a8 : Option D} {s : Int}
theorem low_1 (g : Γ[31]? = some φ_full) (ok : F.ok) (b : Bool) (h : Q (resD (if b = true then .num s F.full F.L else .zero s, .under)) M) :
    dSs Γ xm ir_put_low_k1 W (endS Q) [some (fmD F), some (mdD md), some (.int s), a3, a4, a5, a6, a7, some (.bl b)] M := by
  unfold ir_put_low_k1
  cases b with
  | true => simp [g, ok] at h ⊢; exact ends_rt h
  | false => simp [g, ok] at h ⊢; exact ends_rt h
theorem low_2 (g : Γ[31]? = some φ_full) (ok : F.ok) (n : Int) (h : Q (resD (if md.lowGoes s n = true then .num s F.full F.L else .zero s, .under)) M) :
    dSs Γ xm ir_put_low_k2 W (endS Q) [some (fmD F), some (mdD md), some (.int s), a3, a4, a5, a6, some (.int n), a8] M := by
  unfold ir_put_low_k2
  cases md
  case even =>
    simp [mdD, Md.nm]
    exact low_1 (md := .even) g ok _ (by simpa [Md.lowGoes] using h)
  case away =>
    simp [mdD, Md.nm]
    exact low_1 (md := .away) g ok _ (by simpa [Md.lowGoes] using h)
  case odd =>
    simp [mdD, Md.nm]
    exact low_1 (md := .odd) g ok true (by simpa [Md.lowGoes] using h)
  case zero =>
    simp [mdD, Md.nm]
    exact low_1 (md := .zero) g ok false (by simpa [Md.lowGoes] using h)
  case up =>
    simp [mdD, Md.nm]
    by_cases hs : s = 1
    · simp [hs]; exact low_1 (md := .up) g ok true (by simpa [Md.lowGoes, hs] using h)
    · simp [hs]; exact low_1 (md := .up) g ok false (by simpa [Md.lowGoes, hs] using h)
  case down =>
    simp [mdD, Md.nm]
    by_cases hs : s = -1
    · simp [hs]; exact low_1 (md := .down) g ok true (by simpa [Md.lowGoes, hs] using h)
    · simp [hs]; exact low_1 (md := .down) g ok false (by simpa [Md.lowGoes, hs] using h)
theorem low_3 (g : Γ[31]? = some φ_full) (ok : F.ok) (t n w : Int) (h : Q (resD (if md.lowGoes s (if t = -1 then (if w = 2 then 0 else if w = 3 then 1 else -1) else n) = true then .num s F.full F.L else .zero s, .under)) M) :
    dSs Γ xm ir_put_low_k3 W (endS Q) [some (fmD F), some (mdD md), some (.int s), a3, a4, some (.int w), some (.int t), some (.int n), a8] M := by
  unfold ir_put_low_k3
  by_cases ht : t = -1
  · rw [if_pos ht] at h
    by_cases h2 : w = 2
    · rw [if_pos h2] at h
      simp [ht, h2]
      exact low_2 g ok _ h
    · by_cases h3 : w = 3
      · rw [if_neg h2, if_pos h3] at h
        simp [ht, h3]
        exact low_2 g ok _ h
      · rw [if_neg h2, if_neg h3] at h
        simp [ht, h2, h3]
        exact low_2 g ok _ h
  · rw [if_neg ht] at h
    simp [ht]
    exact low_2 g ok _ h
theorem low_4 (g : Γ[31]? = some φ_full) (ok : F.ok) (t w : Int) (h : Q (resD (if md.lowGoes s (nearI t w) = true then .num s F.full F.L else .zero s, .under)) M) :
    dSs Γ xm ir_put_low_k4 W (endS Q) [some (fmD F), some (mdD md), some (.int s), a3, a4, some (.int w), some (.int t), a7, a8] M := by
  unfold ir_put_low_k4
  unfold nearI at h
  by_cases h1 : t < 0
  · rw [if_pos h1] at h
    simp [h1]
    exact low_3 g ok _ _ _ h
  · rw [if_neg h1] at h
    by_cases h2 : 0 < t
    · have e : (if 0 < t ∨ w ≠ 0 then (1 : Int) else 0) = 1 := if_pos (.inl h2)
      rw [e] at h
      simp [h1, h2]
      exact low_3 g ok _ _ _ h
    · by_cases h3 : w = 0
      · have e : (if 0 < t ∨ w ≠ 0 then (1 : Int) else 0) = 0 := if_neg (by simp [h2, h3])
        rw [e] at h
        simp [h1, h2, h3]
        subst h3
        exact low_3 g ok _ _ _ h
      · have e : (if 0 < t ∨ w ≠ 0 then (1 : Int) else 0) = 1 := if_pos (.inr h3)
        rw [e] at h
        simp [h1, h2, h3]
        exact low_3 g ok _ _ _ h
end
theorem b_put_low (g : Γ[31]? = some φ_full) (h : φ_put_low ds M Q E) : dSs Γ xm ir_put_low (endW E) (endS Q) (startD 9 ds) M := by
  unfold φ_put_low at h
  split at h
  · rename_i s m hw
    obtain ⟨F, rfl, ok, md, rfl, h⟩ := h
    have m2 : ∀ i : Int, IntMulOk 2 i := fun i => small_mul (by decide)
    unfold ir_put_low
    simp [startD]
    unfold ir_put_low_k5
    simp [g, ok, m2]
    exact low_4 g ok _ _ h
  · exact h.elim
end
end U
end
section
set_option maxHeartbeats 4000000
namespace U
open PySem PySem.Spec PyProof.Rows L2 DL
/-! ### powers -/
theorem natCast_pos {b : Nat} (h : 0 < b) : (0 : Rat) < ((b : Int) : Rat) := Rat.intCast_pos.mpr (by omega)
theorem pw_z {b : Nat} (h : 0 < b) (e : Int) : pw b e = (((b : Int) : Rat)) ^ e := by
  unfold pw
  by_cases h0 : 0 ≤ e
  · rw [if_pos h0]
    obtain ⟨n, rfl⟩ := Int.eq_ofNat_of_zero_le h0
    rw [Rat.zpow_natCast, Rat.intCast_pow]
    rfl
  · rw [if_neg h0]
    obtain ⟨n, hn⟩ := Int.eq_ofNat_of_zero_le (show 0 ≤ -e by omega)
    have he : e = -(n : Int) := by omega
    subst he
    rw [Rat.zpow_neg, Rat.zpow_natCast, Rat.divInt_eq_div, Rat.intCast_pow]
    have : (- -(n : Int)).toNat = n := by omega
    rw [this, Rat.intCast_one, Rat.div_def, Rat.one_mul]
theorem pw_pos {b : Nat} (h : 0 < b) (e : Int) : 0 < pw b e := by rw [pw_z h]; exact Rat.zpow_pos (natCast_pos h)
theorem pw_add {b : Nat} (h : 0 < b) (e f : Int) : pw b (e + f) = pw b e * pw b f := by
  rw [pw_z h, pw_z h, pw_z h]
  exact Rat.zpow_add (Rat.ne_of_gt (natCast_pos h)) e f
theorem pw_zero (b : Int) : pw b 0 = 1 := by unfold pw; simp
theorem pw_neg_mul {b : Nat} (h : 0 < b) (e : Int) : pw b e * pw b (-e) = 1 := by
  rw [← pw_add h]
  have : e + -e = 0 := by omega
  rw [this, pw_zero]
theorem pw_nat (b n : Nat) : pw b (n : Int) = ((b ^ n : Nat) : Int) := by
  unfold pw
  rw [if_pos (by omega)]
  simp
theorem pw_one_le {b : Nat} (h : 2 ≤ b) {e : Int} (he : 0 ≤ e) : 1 ≤ pw b e := by
  obtain ⟨n, rfl⟩ := Int.eq_ofNat_of_zero_le he
  rw [pw_nat, ← Rat.intCast_one, Rat.intCast_le_intCast]
  have := Nat.pow_pos (n := n) (show 0 < b by omega)
  omega
theorem pw_le {b : Nat} (h : 2 ≤ b) {e f : Int} (hl : e ≤ f) : pw b e ≤ pw b f := by
  have hb : 0 < b := by omega
  have e1 : f = e + (f - e) := by omega
  rw [e1, pw_add hb]
  have h1 := pw_one_le h (show 0 ≤ f - e by omega)
  have h2 := pw_pos hb e
  have := Rat.mul_le_mul_of_nonneg_left h1 (Rat.le_of_lt h2)
  simpa using this
theorem pw_lt_inv {b : Nat} (h : 2 ≤ b) {e f : Int} (hl : pw b e < pw b f) : e < f := by
  rcases (by omega : e < f ∨ f ≤ e) with z | z
  · exact z
  · exact absurd (pw_le h z) (Rat.not_le.mpr hl)
/-- a number that can be reckoned with here -/
structure Nm (x : Rat) : Prop where
  sz : Sz 3900 x
  up : x < pw (2 : Nat) 900
theorem two_le {B : Nat} (h : 2 ≤ B) : ∀ n : Nat, pw (2 : Nat) n ≤ pw B n := fun n => by
  rw [pw_nat, pw_nat, Rat.intCast_le_intCast]
  have := Nat.pow_le_pow_left h n
  omega
end U
end
section
set_option maxHeartbeats 4000000
namespace U
open PySem PySem.Spec PyProof.Rows L2 DL
section
variable {Γ : List DSp} {xm : Nat → Nat → Option Bool} {ds : List D} {M : Mem} {Q : QD} {E : XD} {F : Fm} {v : Va} {md : Md} {x : Rat} {W : WD} {s : Int}
theorem digits_q {n b : Int} (h0 : 0 ≤ n) (h1 : n.natAbs < 2 ^ 8000) (h2 : 2 ≤ b) (h3 : b.natAbs < 2 ^ 8000) (h : Q (.int (dgN b.toNat n.toNat)) M) : φ_digits_in [.int n, .int b] M Q E :=
  ⟨h0, h1, h2, h3, fun k hk => by rw [Dg.uniq (by omega) hk (dgN_ok (by omega) _)]; exact h⟩
where
  Dg.uniq {b n k k' : Nat} (hb : 2 ≤ b) (h : Dg b n k) (h' : Dg b n k') : k = k' := by
    have key : ∀ k k', Dg b n k → Dg b n k' → ¬ k < k' := fun k k' h h' hl => by
      rcases h'.2 with e | e
      · omega
      · have : b ^ k ≤ b ^ (k' - 1) := Nat.pow_le_pow_right (by omega) (by omega)
        have := h.1
        omega
    have h1 := key k k' h h'
    have h2 := key k' k h' h
    omega
theorem floor_nn {y : Rat} (h : 0 ≤ y) : 0 ≤ y.floor := Rat.le_floor_iff.mpr (by simpa using h)
theorem floor_sz {y : Rat} {n : Nat} (h : Sz n y) : y.floor.natAbs < 2 ^ n := by
  rw [← floor_f]
  have z1 := h.1
  have z2 := y.den_pos
  rw [Int.fdiv_eq_ediv_of_nonneg _ (by omega)]
  have := Int.natAbs_ediv_le_natAbs y.num y.den
  omega
theorem Nm.sc_sz (ok : F.ok) (nm : Nm x) {e : Int} (l : -900 ≤ e) (u : e ≤ 900) : Sz 7501 (sc F.B x e) := nm.sz.mul (pw_sz5 ok.b2 ok.b16 (by omega) (by omega))
theorem sc_pos (ok : F.ok) (hx : 0 < x) (e : Int) : 0 < sc F.B x e := Rat.mul_pos hx (pw_pos (by have := ok.b2; omega) _)
theorem expo_lo : F.L ≤ F.expo x := by unfold Fm.expo; split <;> omega
theorem expo_hi (ok : F.ok) (hx : 0 < x) (nm : Nm x) : F.expo x ≤ 900 := by
  have h2 := ok.h2; have hl := ok.lh; have hp := ok.p1; have b2 := ok.b2; have l1 := ok.l1
  have bp : 0 < F.B := by omega
  unfold Fm.expo Fm.nd
  split
  · rename_i hd
    have dg := dgN_ok b2 (sc F.B x F.L).floor.toNat
    generalize hn : dgN F.B (sc F.B x F.L).floor.toNat = n at hd dg ⊢
    have h1 : F.B ^ (n - 1) ≤ (sc F.B x F.L).floor.toNat := dg.2.resolve_left (by omega)
    have f0 := floor_nn (Rat.le_of_lt (sc_pos ok hx F.L))
    have h3 : (((F.B ^ (n - 1) : Nat) : Int) : Rat) ≤ sc F.B x F.L := by
      refine Rat.le_floor_iff.mp ?_
      omega
    rw [← pw_nat] at h3
    have h4 : pw F.B ((n - 1 : Nat) : Int) * pw F.B F.L ≤ sc F.B x F.L * pw F.B F.L := Rat.mul_le_mul_of_nonneg_right h3 (Rat.le_of_lt (pw_pos bp _))
    have h5 : sc F.B x F.L * pw F.B F.L = x := by
      unfold sc
      rw [Rat.mul_assoc, Rat.mul_comm (pw F.B (-F.L)), pw_neg_mul bp, Rat.mul_one]
    rw [h5, ← pw_add bp] at h4
    by_cases hneg : F.L + ((n : Int) - F.p) ≤ 0
    · omega
    · obtain ⟨j, hj⟩ := Int.eq_ofNat_of_zero_le (show 0 ≤ F.L + ((n : Int) - F.p) by omega)
      have h6 : pw F.B (F.L + ((n : Int) - F.p)) ≤ pw F.B (((n - 1 : Nat) : Int) + F.L) := pw_le b2 (by omega)
      rw [hj] at h6
      have h7 : pw (2 : Nat) (j : Int) < pw (2 : Nat) 900 := Rat.not_le.mp fun z => absurd (Rat.le_trans z (Rat.le_trans (two_le b2 j) (Rat.le_trans h6 h4))) (Rat.not_le.mpr nm.up)
      have := pw_lt_inv (by decide) h7
      omega
  · omega
end
end U
end
section
set_option maxHeartbeats 400000
namespace U
open PySem PySem.Spec PyProof.Rows L2 DL
section
variable {Γ : List DSp} {xm : Nat → Nat → Option Bool} {ds : List D} {M : Mem} {Q : QD} {E : XD} {F : Fm} {v : Va} {md : Md} {x : Rat} {W : WD} {s : Int}
def φ_put : DSp := fun l M Q _ => match l with
  | [f, md, .int s, .clo 45 [.int B, d]] => onF (fun F => onM (fun md => onR (fun x => B = F.B ∧ 0 < x ∧ Nm x ∧ Q (resD (F.put md s x)) M) d) md) f
  | _ => False
theorem put_s {s : Int} (ok : F.ok) (hx : 0 < x) (nm : Nm x) (h : Q (resD (F.put md s x)) M) : φ_put [fmD F, mdD md, .int s, .clo 45 [.int F.B, rt x]] M Q E :=
  ⟨F, rfl, ok, md, rfl, x, rfl, rfl, hx, nm, h⟩
section
variable {a3 a4 a9 : Option D} {n e m hw : Int}
theorem put_1 {f : Fl} (hm : 0 ≤ m) (h : Q (resD (.num s m.toNat e, f)) M) : dSs Γ xm ir_put_k1 W (endS Q) [some (fmD F), some (mdD md), some (.int s), a3, a4, some (.int n), some (.int e), some (.int m), some (.int hw), some (flD f)] M := by
  obtain ⟨j, rfl⟩ := Int.eq_ofNat_of_zero_le hm
  unfold ir_put_k1
  simp
  exact ends_rt h
theorem put_4 (g7 : Γ[47]? = some φ_beyond) (ok : F.ok) (hm : 0 ≤ m) (h : Q (resD (F.done md s n hw m e)) M) : dSs Γ xm ir_put_k4 W (endS Q) [some (fmD F), some (mdD md), some (.int s), a3, a4, some (.int n), some (.int e), some (.int m), some (.int hw), a9] M := by
  unfold Fm.done at h
  unfold ir_put_k4
  by_cases h1 : F.H < e
  · rw [if_pos h1] at h
    simp [h1, g7, ok]
    exact ends_rt h
  · rw [if_neg h1] at h
    simp [h1]
    unfold ir_put_k3
    by_cases h2 : m = 0
    · rw [if_pos h2] at h
      simp [h2]
      exact ends_rt h
    · rw [if_neg h2] at h
      simp [h2]
      unfold ir_put_k2
      by_cases h3 : hw = 0
      · rw [if_pos h3] at h
        simp [h3]
        exact put_1 (f := .none) hm h
      · rw [if_neg h3] at h
        by_cases h4 : n < F.p
        · rw [if_pos h4] at h
          simp [h3, h4]
          exact put_1 (f := .under) hm h
        · rw [if_neg h4] at h
          simp [h3, h4]
          exact put_1 (f := .inexact) hm h
end
theorem put_9 {n : Int} {a3 a4 : Option D} (g3 : Γ[48]? = some φ_put_low) (ok : F.ok) (h1 : ¬ (F.tiny = false ∧ n < F.p)) (fall : dSs Γ xm ir_put_k8 W (endS Q) [some (fmD F), some (mdD md), some (.int s), a3, a4, some (.int n), none, none, none, none] M) :
    dSs Γ xm ir_put_k9 W (endS Q) [some (fmD F), some (mdD md), some (.int s), a3, a4, some (.int n), none, none, none, none] M := by
  unfold ir_put_k9
  cases ht : F.tiny with
  | true => simp [ht]; exact fall
  | false =>
    have t2' : ¬ n < F.p := fun z => h1 ⟨ht, z⟩
    simp [ht]
    rw [if_neg t2']
    exact fall
theorem b_put (g1 : Γ[45]? = some φ_told) (g2 : Γ[21]? = some φ_digits_in) (g3 : Γ[48]? = some φ_put_low) (g4 : Γ[46]? = some φ_goes_up) (g5 : Γ[32]? = some φ_above) (g6 : Γ[31]? = some φ_full) (g7 : Γ[47]? = some φ_beyond) (h : φ_put ds M Q E) : dSs Γ xm ir_put (endW E) (endS Q) (startD 10 ds) M := by
  unfold φ_put at h
  split at h
  · rename_i s B _
    obtain ⟨F, rfl, ok, md, rfl, x, rfl, rfl, hx, nm, h⟩ := h
    have h2 := ok.h2; have hl := ok.lh; have hp := ok.p1; have b2 := ok.b2; have b16 := ok.b16; have l1 := ok.l1
    unfold ir_put
    simp [startD, g1]
    refine told_s b2 b16 (by omega) (by omega) nm.sz ?_
    unfold ir_put_k10
    simp [g2]
    have hb8 : F.B < 2 ^ 8000 := pow_mono (m := 5) (n := 8000) (by omega) (by decide)
    refine digits_q (floor_nn (Rat.le_of_lt (sc_pos ok hx _))) (pow_mono (m := 7501) (n := 8000) (floor_sz (nm.sc_sz ok (by omega) (by omega))) (by decide)) (by omega) (by rw [Int.natAbs_natCast]; exact hb8) ?_
    have eB : (F.B : Int).toNat = F.B := by omega
    rw [eB]
    have e1 := expo_lo (F := F) (x := x)
    have e2 := expo_hi ok hx nm
    generalize hnd : (dgN F.B (sc F.B x F.L).floor.toNat : Int) = nn
    have nd0 : F.nd x = nn := by rw [← hnd]; unfold Fm.nd; rfl
    rw [← nd0]
    clear hnd
    unfold Fm.put at h
    unfold ir_put_k9
    by_cases hlow : F.tiny = false ∧ F.nd x < F.p
    · rw [if_pos hlow] at h
      obtain ⟨t1, t2⟩ := hlow
      simp [t1, t2, g3, ok]
      exact ends_rt h
    · rw [if_neg hlow] at h
      have fall : dSs Γ xm ir_put_k8 (endW E) (endS Q) [some (fmD F), some (mdD md), some (.int s), some (.clo 45 [.int F.B, rt x]), some (.tup [.int (sc F.B x F.L).floor, .int (how (sc F.B x F.L))]), some (.int (F.nd x)), none, none, none, none] M := by
        have ee : F.L + (if F.nd x - F.p > 0 then F.nd x - F.p else 0) = F.expo x := rfl
        have f0 := floor_nn (Rat.le_of_lt (sc_pos ok hx (F.expo x)))
        unfold ir_put_k8
        simp
        have ee2 : F.L + (if (F.p : Int) < F.nd x then F.nd x - F.p else 0) = F.expo x := by unfold Fm.expo; split <;> split <;> omega
        rw [ee2]
        unfold ir_put_k7
        simp [g1]
        refine told_s b2 b16 (by omega) e2 nm.sz ?_
        simp
        unfold ir_put_k6
        unfold Fm.up1 at h
        by_cases hg : md.goes s (sc F.B x (F.expo x)).floor (how (sc F.B x (F.expo x))) = true
        · rw [if_pos hg] at h
          simp [g4, hg]
          unfold ir_put_k5
          by_cases ht : (sc F.B x (F.expo x)).floor + 1 = F.top
          · rw [if_pos ht] at h
            simp [g5, g6, ok, ht]
            exact put_4 g7 ok (by omega) h
          · rw [if_neg ht] at h
            simp [g5, g6, ok, ht]
            exact put_4 g7 ok (by omega) h
        · rw [if_neg hg] at h
          simp [g4, hg]
          unfold ir_put_k5
          by_cases ht : (sc F.B x (F.expo x)).floor = F.top
          · rw [if_pos ht] at h
            simp [g5, g6, ok, ht]
            exact put_4 g7 ok (by omega) h
          · rw [if_neg ht] at h
            simp [g5, g6, ok, ht]
            exact put_4 g7 ok (by omega) h
      exact put_9 g3 ok hlow fall
  · exact h.elim
end
end U
end
section
set_option maxHeartbeats 400000
namespace U
open PySem PySem.Spec PyProof.Rows L2 DL
section
variable {Γ : List DSp} {xm : Nat → Nat → Option Bool} {ds : List D} {M : Mem} {Q : QD} {E : XD} {F : Fm} {v : Va} {md : Md} {x : Rat} {W : WD} {s : Int}
theorem ab_pos (h : x ≠ 0) : 0 < ab x := by
  unfold ab
  split
  · grind
  · grind
def φ_rounded : DSp := fun l M Q _ => match l with
  | [f, md, d, .int s] => onF (fun F => onM (fun md => onR (fun x => Nm (ab x) ∧ Q (resD (F.rnd md x s)) M) d) md) f
  | _ => False
@[simp] theorem rounded_s : φ_rounded [fmD F, mdD md, rt x, .int s] M Q E = (F.ok ∧ Nm (ab x) ∧ Q (resD (F.rnd md x s)) M) := by simp [φ_rounded]
theorem b_rounded (g1 : Γ[28]? = some φ_look_at_format) (g2 : Γ[30]? = some φ_look_at_mode) (g3 : Γ[44]? = some φ_oracle_of) (g4 : Γ[49]? = some φ_put) (h : φ_rounded ds M Q E) : dSs Γ xm ir_rounded (endW E) (endS Q) (startD 5 ds) M := by
  unfold φ_rounded at h
  split at h
  · rename_i s
    obtain ⟨F, rfl, ok, md, rfl, x, rfl, nm, h⟩ := h
    unfold Fm.rnd at h
    unfold ir_rounded
    by_cases h0 : x = 0
    · rw [if_pos h0] at h
      subst h0
      simp [startD, g1, g2, ok]
      exact ends_rt h
    · rw [if_neg h0] at h
      have hn : x.num ≠ 0 := fun z => h0 (Rat.num_eq_zero.mp z)
      simp [startD, g1, g2, g3, g4, ok, hn, rt_ab]
      have np : (0 < x.num) = (0 < x) := propext (by rw [Rat.lt_iff]; simp)
      simp only [np]
      unfold sg at h
      by_cases hp : 0 < x
      · rw [if_pos hp] at h ⊢
        exact put_s ok (ab_pos h0) nm (ends_rt h)
      · rw [if_neg hp] at h ⊢
        exact put_s ok (ab_pos h0) nm (ends_rt h)
  · exact h.elim
end
end U
end
section
set_option maxHeartbeats 1000000
namespace U
open PySem PySem.Spec PyProof.Rows L2 DL
/-! ### the exponent that a number gets, and what rounding looks at -/
theorem rle_lt {a b c : Rat} (h1 : a ≤ b) (h2 : b < c) : a < c := by grind
theorem rlt_le {a b c : Rat} (h1 : a < b) (h2 : b ≤ c) : a < c := by grind
theorem sc_mul {B : Nat} (hb : 0 < B) (x : Rat) (e : Int) : sc B x e * pw B e = x := by
  unfold sc
  rw [Rat.mul_assoc, Rat.mul_comm (pw B (-e)), pw_neg_mul hb, Rat.mul_one]
theorem lt_scale {B : Nat} (hb : 0 < B) {x y : Rat} {e : Int} : sc B x e < y ↔ x < y * pw B e := by
  conv => rhs; rw [← sc_mul hb x e]
  exact (Rat.mul_lt_mul_right (pw_pos hb e)).symm
theorem le_scale {B : Nat} (hb : 0 < B) {x y : Rat} {e : Int} : y ≤ sc B x e ↔ y * pw B e ≤ x := by
  rw [← Rat.not_lt, lt_scale hb, Rat.not_lt]
theorem eq_scale {B : Nat} (hb : 0 < B) {x y : Rat} {e : Int} : sc B x e = y ↔ x = y * pw B e := by
  constructor
  · intro h; rw [← h, sc_mul hb]
  · intro h
    subst h
    unfold sc
    rw [Rat.mul_assoc, pw_neg_mul hb, Rat.mul_one]
theorem sc_lt_pow {B : Nat} (hb : 0 < B) {x : Rat} {e : Int} {k : Nat} : (sc B x e).floor < ((B ^ k : Nat) : Int) ↔ x < pw B (k + e) := by
  rw [Rat.floor_lt_iff, lt_scale hb, pw_add hb, pw_nat]
theorem pow_le_sc {B : Nat} (hb : 0 < B) {x : Rat} {e : Int} {k : Nat} : ((B ^ k : Nat) : Int) ≤ (sc B x e).floor ↔ pw B (k + e) ≤ x := by
  rw [← Int.not_lt, sc_lt_pow hb, Rat.not_lt]
section
variable {F : Fm} {x : Rat}
theorem Fm.ok.bp (ok : F.ok) : 0 < F.B := by have := ok.b2; omega
theorem Fm.nd_lt (ok : F.ok) (hx : 0 < x) {k : Nat} (hk : 1 ≤ k) : F.nd x < k ↔ x < pw F.B ((k - 1 : Nat) + F.L) := by
  rw [← sc_lt_pow ok.bp]
  have f0 := floor_nn (Rat.le_of_lt (sc_pos ok hx F.L))
  have dg := dgN_ok ok.b2 (sc F.B x F.L).floor.toNat
  unfold Fm.nd
  generalize dgN F.B (sc F.B x F.L).floor.toNat = n at dg
  generalize hz : (sc F.B x F.L).floor = z at dg f0 ⊢
  constructor
  · intro h
    have : F.B ^ n ≤ F.B ^ (k - 1) := Nat.pow_le_pow_right ok.bp (by omega)
    have := dg.1
    omega
  · intro h
    by_cases hn : n < k
    · omega
    · rcases dg.2 with h0 | h0
      · omega
      · have : F.B ^ (k - 1) ≤ F.B ^ (n - 1) := Nat.pow_le_pow_right ok.bp (by omega)
        omega
theorem Fm.expo_spec (ok : F.ok) (hx : 0 < x) : F.L ≤ F.expo x ∧ x < pw F.B (F.p + F.expo x) ∧ (F.expo x = F.L ∨ pw F.B (F.p - 1 + F.expo x) ≤ x) := by
  refine ⟨expo_lo, ?_⟩
  have f0 := floor_nn (Rat.le_of_lt (sc_pos ok hx F.L))
  have dg := dgN_ok ok.b2 (sc F.B x F.L).floor.toNat
  have hp := ok.p1
  unfold Fm.expo Fm.nd
  generalize dgN F.B (sc F.B x F.L).floor.toNat = n at dg
  have h1 : x < pw F.B ((n : Nat) + F.L) := by
    rw [← sc_lt_pow ok.bp]; have := dg.1; omega
  split
  · rename_i h
    have e1 : (F.p : Int) + (F.L + ((n : Int) - F.p)) = (n : Nat) + F.L := by omega
    have e2 : (F.p : Int) - 1 + (F.L + ((n : Int) - F.p)) = (n - 1 : Nat) + F.L := by omega
    rw [e1, e2]
    refine ⟨h1, .inr ?_⟩
    rw [← pow_le_sc ok.bp]
    have := dg.2.resolve_left (by omega)
    omega
  · rename_i h
    refine ⟨?_, .inl (by omega)⟩
    have : pw F.B ((n : Nat) + F.L) ≤ pw F.B ((F.p : Int) + (F.L + 0)) := pw_le ok.b2 (by omega)
    grind
theorem Fm.expo_uniq (ok : F.ok) (hx : 0 < x) {e : Int} (h1 : F.L ≤ e) (h2 : x < pw F.B (F.p + e)) (h3 : e = F.L ∨ pw F.B (F.p - 1 + e) ≤ x) : F.expo x = e := by
  obtain ⟨g1, g2, g3⟩ := Fm.expo_spec ok hx
  have key : ∀ {a b : Int}, x < pw F.B (F.p + a) → pw F.B (F.p - 1 + b) ≤ x → ¬ a < b := fun ha hb hl => by
    have := pw_lt_inv ok.b2 (rle_lt hb ha)
    omega
  rcases g3 with g3 | g3 <;> rcases h3 with h3 | h3
  · omega
  · have := key g2 h3; omega
  · have := key h2 g3; omega
  · have := key h2 g3; have := key g2 h3; omega
/-- how many digits: fewer than all -/
theorem Fm.few_iff (ok : F.ok) (hx : 0 < x) : F.nd x < F.p ↔ x < pw F.B (F.p - 1 + F.L) := by
  have := ok.p1
  rw [Fm.nd_lt ok hx (k := F.p) (by omega)]
  have e : ((F.p - 1 : Nat) : Int) + F.L = F.p - 1 + F.L := by omega
  rw [e]
theorem Fm.few_expo (ok : F.ok) (h : F.nd x < F.p) : F.expo x = F.L := by
  unfold Fm.expo
  rw [if_neg (by omega)]
  omega
/-- the whole part at its exponent -/
def Fm.mt (F : Fm) (x : Rat) : Int := (sc F.B x (F.expo x)).floor
def Fm.hw (F : Fm) (x : Rat) : Int := how (sc F.B x (F.expo x))
theorem Fm.mt_nn (ok : F.ok) (hx : 0 < x) : 0 ≤ F.mt x := floor_nn (Rat.le_of_lt (sc_pos ok hx _))
theorem Fm.mt_lt (ok : F.ok) (hx : 0 < x) : F.mt x < F.top := (sc_lt_pow ok.bp (k := F.p)).mpr (Fm.expo_spec ok hx).2.1
theorem Fm.mt_few (ok : F.ok) (hx : 0 < x) : F.mt x < F.full ↔ F.nd x < F.p := by
  have hp := ok.p1
  obtain ⟨g1, g2, g3⟩ := Fm.expo_spec ok hx
  have e : ((F.p - 1 : Nat) : Int) = F.p - 1 := by omega
  constructor
  · intro h
    have : x < pw F.B ((F.p - 1 : Nat) + F.expo x) := (sc_lt_pow ok.bp).mp h
    rw [e] at this
    rcases g3 with g3 | g3
    · rw [Fm.few_iff ok hx, ← g3]; exact this
    · exact absurd g3 (Rat.not_le.mpr this)
  · intro h
    have h2 := Fm.few_expo ok h
    rw [Fm.few_iff ok hx] at h
    refine (sc_lt_pow ok.bp (k := F.p - 1)).mpr ?_
    rw [e, h2]; exact h
/-- what is left, by a numerator and a denominator -/
def howI (n d : Int) : Int := if 2 * (n - n.fdiv d * d) = 0 then 0 else if 2 * (n - n.fdiv d * d) < d then 1 else if 2 * (n - n.fdiv d * d) = d then 2 else 3
theorem floor_div {n d : Int} (hd : 0 < d) : (Rat.divInt n d).floor = n.fdiv d := by
  have h1 := floor_lo (a := n) hd
  have h2 := floor_hi (a := n) hd
  generalize (Rat.divInt n d).floor = f at h1 h2
  rw [Int.fdiv_eq_ediv_of_nonneg _ (Int.le_of_lt hd)]
  refine Int.le_antisymm ?_ ?_
  · exact (Int.le_ediv_iff_mul_le hd).mpr h1
  · exact Int.le_of_lt_add_one ((Int.ediv_lt_iff_lt_mul hd).mpr h2)
theorem how_div {n d : Int} (hd : 0 < d) : how (Rat.divInt n d) = howI n d := by
  unfold how howI
  rw [floor_div hd]
  generalize n.fdiv d = f
  have hd' : (0 : Rat) < (d : Rat) := Rat.intCast_pos.mpr hd
  have hy := (Rat.divInt n d).den_pos
  have cross : (Rat.divInt n d).num * d = n * (Rat.divInt n d).den := by
    have hd0 : d ≠ 0 := by omega
    have hy0 : ((Rat.divInt n d).den : Int) ≠ 0 := by omega
    have e : Rat.divInt n d = Rat.divInt (Rat.divInt n d).num (Rat.divInt n d).den := (Rat.num_divInt_den _).symm
    exact ((Rat.divInt_eq_divInt_iff hd0 hy0).mp e).symm
  generalize (Rat.divInt n d).num = N at cross
  generalize (Rat.divInt n d).den = D at cross hy
  have hD : (0 : Int) < D := by omega
  have key : (2 * (N - f * D)) * d = (2 * (n - f * d)) * D := by grind
  have c1 : 2 * (N - f * D) = 0 ↔ 2 * (n - f * d) = 0 := by
    constructor
    · intro h; rw [h, Int.zero_mul] at key
      exact (Int.mul_eq_zero.mp key.symm).resolve_right (by omega)
    · intro h; rw [h, Int.zero_mul] at key
      exact (Int.mul_eq_zero.mp key).resolve_right (by omega)
  have c2 : 2 * (N - f * D) < D ↔ 2 * (n - f * d) < d := by
    constructor
    · intro h
      have := Int.mul_lt_mul_of_pos_right h hd
      rw [key, Int.mul_comm (D : Int) d] at this
      exact Int.lt_of_mul_lt_mul_right this (Int.le_of_lt hD)
    · intro h
      have := Int.mul_lt_mul_of_pos_right h hD
      rw [← key, Int.mul_comm d] at this
      exact Int.lt_of_mul_lt_mul_right this (Int.le_of_lt hd)
  have c3 : 2 * (N - f * D) = D ↔ 2 * (n - f * d) = d := by
    constructor
    · intro h
      rw [h, Int.mul_comm] at key
      exact (Int.eq_of_mul_eq_mul_right (by omega) key).symm
    · intro h
      rw [h, Int.mul_comm d] at key
      exact (Int.eq_of_mul_eq_mul_right (by omega) key)
  simp only [c1, c2, c3]
end
end U
end
section
set_option maxHeartbeats 1000000
namespace U
open PySem PySem.Spec PyProof.Rows L2 DL
section
variable {Γ : List DSp} {xm : Nat → Nat → Option Bool} {ds : List D} {M : Mem} {Q : QD} {E : XD} {F : Fm} {v : Va} {md : Md} {x : Rat} {W : WD} {s : Int}
theorem rngD_cons (lo : Int) (n : Nat) : rngD lo 1 (n + 1) = .int lo :: rngD (lo + 1) 1 n := by
  unfold rngD
  rw [List.range_succ_eq_map]
  simp
  intro a _
  omega
theorem for_rng {st : D → WpS} {ch : Mem → Prop} {Dn : En} (I : Int → Ev → Mem → Prop) : ∀ (n : Nat) (lo : Int) (δ : Ev) (M : Mem),
    (∀ (i : Int) (δ : Ev) (M : Mem), lo ≤ i → i < lo + n → I i δ M → ch M ∧ ∀ nx : Ev → Mem → Prop, (∀ δ' M', I (i + 1) δ' M' → nx δ' M') → st (.int i) { nx := nx, ct := nx, bk := Dn.nx, rt := Dn.rt } δ M) →
    (∀ δ M, I (lo + n) δ M → ch M ∧ Dn.nx δ M) → I lo δ M → forGo st ch Dn (rngD lo 1 n) δ M
  | 0, lo, δ, M, hs, hn, h => by
    have := hn δ M (by simpa using h)
    exact this
  | n + 1, lo, δ, M, hs, hn, h => by
    rw [rngD_cons, for_cons]
    refine ⟨(hs lo δ M (by omega) (by omega) h).1, ?_⟩
    refine (hs lo δ M (by omega) (by omega) h).2 _ fun δ' M' h' => ?_
    exact for_rng I n (lo + 1) δ' M' (fun i δ M h1 h2 => hs i δ M (by omega) (by omega)) (fun δ M h => hn δ M (by
      have : lo + 1 + (n : Int) = lo + ((n + 1 : Nat) : Int) := by omega
      rw [← this]; exact h)) h'
/-- a power by steps -/
def φ_law_raise : DSp := fun l M Q _ => match l with
  | [.int b, .int n] => b.natAbs ≤ 16 ∧ n ≤ 100000 ∧ Q (.int (b ^ n.toNat)) M ∧ -100000 ≤ n
  | _ => False
@[simp] theorem law_raise_s {b n : Int} : φ_law_raise [.int b, .int n] M Q E = (b.natAbs ≤ 16 ∧ n ≤ 100000 ∧ Q (.int (b ^ n.toNat)) M ∧ -100000 ≤ n) := rfl
theorem b_law_raise (h : φ_law_raise ds M Q E) : dSs Γ xm ir_law_raise (endW E) (endS Q) (startD 4 ds) M := by
  unfold φ_law_raise at h
  split at h
  · rename_i b n
    obtain ⟨hb, hn, h, hn2⟩ := h
    unfold ir_law_raise
    simp [startD]
    refine ⟨⟨by omega, by omega⟩, ?_⟩
    refine for_rng (fun i δ M' => 0 ≤ i ∧ i ≤ n.toNat ∧ M' = M ∧ ∃ o, δ = [some (.int b), some (.int n), some (.int (b ^ i.toNat)), o]) n.toNat 0 _ M ?_ ?_ ⟨by omega, by omega, rfl, none, by simp⟩
    · rintro i δ M' h1 h2 ⟨_, _, rfl, o, rfl⟩
      refine ⟨trivial, fun nx hnx => ?_⟩
      unfold ir_law_raise_b1
      simp
      have := pow_abs (b := b) (k := 4) (j := i.toNat) (by simpa using hb)
      refine ⟨mulOk (m := 4 * i.toNat + 1) (n := 5) this (by omega) (by omega), ?_⟩
      refine hnx _ _ ⟨by omega, by omega, rfl, some (.int i), ?_⟩
      have e : (i + 1).toNat = i.toNat + 1 := by omega
      rw [e, Int.pow_succ]
    · rintro δ M' ⟨_, _, rfl, o, hδ⟩
      have e : ((0 : Int) + (n.toNat : Int)).toNat = n.toNat := by omega
      rw [e] at hδ
      subst hδ
      refine ⟨trivial, ?_⟩
      simp
      exact ends_rt h
  · exact h.elim
/-- what is left, by twice it and the denominator -/
def howT (t d : Int) : Int := if t = 0 then 0 else if t < d then 1 else if t = d then 2 else 3
theorem howI_T (n d : Int) : howI n d = howT (2 * (n - n.fdiv d * d)) d := rfl
def φ_law_goes : DSp := fun l M Q _ => match l with
  | [md, .int s, .int m, .int t, .int d] => onM (fun md => sgn s ∧ Q (.bl (md.goes s m (howT t d))) M) md
  | _ => False
@[simp] theorem law_goes_s {s m t d : Int} : φ_law_goes [mdD md, .int s, .int m, .int t, .int d] M Q E = (sgn s ∧ Q (.bl (md.goes s m (howT t d))) M) := onM_md
theorem b_law_goes (h : φ_law_goes ds M Q E) : dSs Γ xm ir_law_goes (endW E) (endS Q) (startD 5 ds) M := by
  unfold φ_law_goes at h
  split at h
  · rename_i d s m t dd
    obtain ⟨md, rfl, hs, h⟩ := h
    unfold ir_law_goes
    by_cases h0 : t = 0
    · subst h0
      simp [startD, Md.goes, howT] at h ⊢
      exact ends_rt h
    · have hne : howT t dd ≠ 0 := by unfold howT; rw [if_neg h0]; split <;> (try split) <;> decide
      have h3 : howT t dd = 3 ↔ dd < t := by
        unfold howT; rw [if_neg h0]
        split
        · simp; omega
        · split <;> simp <;> omega
      have h2 : howT t dd = 2 ↔ t = dd := by
        unfold howT; rw [if_neg h0]
        split
        · simp; omega
        · split <;> simp <;> omega
      have h23 : (howT t dd = 2 ∨ howT t dd = 3) ↔ dd ≤ t := by rw [h2, h3]; omega
      cases md <;> simp [Md.goes, hne] at h <;> simp [startD, mdD, Md.nm, h0]
      case even =>
        simp only [h2, h3] at h
        by_cases c3 : dd < t
        · simp [c3] at h ⊢; exact ends_rt h
        · simp [c3] at h ⊢
          by_cases c2 : t = dd
          · simp [c2] at h ⊢; exact ends_rt h
          · simp [c2] at h ⊢; exact ends_rt h
      case away =>
        simp only [← Bool.decide_or, h23] at h
        exact ends_rt h
      case odd => exact ends_rt h
      case up =>
        rcases hs with rfl | rfl
        · simp at h ⊢; exact ends_rt h
        · simp at h ⊢; exact ends_rt h
      case down =>
        rcases hs with rfl | rfl
        · simp at h ⊢; exact ends_rt h
        · simp at h ⊢; exact ends_rt h
      case zero => exact ends_rt h
  · exact h.elim
end
end U
end
section
set_option maxHeartbeats 1000000
namespace U
open PySem PySem.Spec PyProof.Rows L2 DL
theorem pw_div (B : Nat) (e : Int) : pw B e = Rat.divInt ((B : Int) ^ e.toNat) ((B : Int) ^ (-e).toNat) := by
  unfold pw
  by_cases h : 0 ≤ e
  · rw [if_pos h]
    have e1 : (-e).toNat = 0 := by omega
    rw [e1, Int.pow_zero, int_div]
  · rw [if_neg h]
    have e1 : e.toNat = 0 := by omega
    rw [e1, Int.pow_zero]
theorem sc_div {B : Nat} (u b e : Int) : sc B (Rat.divInt u b) e = Rat.divInt (u * (B : Int) ^ (-e).toNat) (b * (B : Int) ^ e.toNat) := by
  unfold sc
  rw [pw_div, Rat.divInt_mul_divInt]
  have : (- -e).toNat = e.toNat := by omega
  rw [this]
theorem sc_step {B : Nat} (hb : 0 < B) (x : Rat) (e : Int) (j : Nat) : sc B x (e + j) = sc B x e * Rat.divInt 1 ((B : Int) ^ j) := by
  unfold sc
  have : -(e + (j : Int)) = -e + -(j : Int) := by omega
  rw [this, pw_add hb, Rat.mul_assoc]
  congr 2
  rw [pw_div]
  have e1 : (-(j : Int)).toNat = 0 := by omega
  have e2 : (- -(j : Int)).toNat = j := by omega
  rw [e1, e2, Int.pow_zero]
theorem ab_div {a b : Int} (hb : 0 < b) : ab (Rat.divInt a b) = Rat.divInt (if a < 0 then -a else a) b := by
  have h : Rat.divInt a b < 0 ↔ a < 0 := by
    have := dlt (a := a) (b := b) (c := 0) (d := 1) hb (by decide)
    rw [Rat.zero_divInt] at this
    rw [this]; omega
  unfold ab
  by_cases h0 : a < 0
  · rw [if_pos (h.mpr h0), if_pos h0, Rat.neg_divInt]
  · rw [if_neg (fun z => h0 (h.mp z)), if_neg h0]
theorem sg_div {a b : Int} (hb : 0 < b) : sg (Rat.divInt a b) = if 0 < a then 1 else -1 := by
  have h : 0 < Rat.divInt a b ↔ 0 < a := by
    have := dlt (a := 0) (b := 1) (c := a) (d := b) (by decide) hb
    rw [Rat.zero_divInt] at this
    rw [this]; omega
  unfold sg
  simp only [h]
theorem div_zero {a b : Int} (hb : 0 < b) : Rat.divInt a b = 0 ↔ a = 0 := by
  rw [← Rat.zero_divInt b, Rat.divInt_eq_divInt_iff (by omega) (by omega)]
  constructor
  · intro h
    rw [Int.zero_mul] at h
    exact (Int.mul_eq_zero.mp h).resolve_right (by omega)
  · rintro rfl; rfl
section
variable {Γ : List DSp} {xm : Nat → Nat → Option Bool} {ds : List D} {M : Mem} {Q : QD} {E : XD} {F : Fm} {v : Va} {md : Md} {x : Rat} {W : WD} {s : Int}
def φ_law_below : DSp := fun l M Q _ => match l with
  | [f, md, .int s, .int u, .int d, .int w] => onF (fun F => onM (fun md => sgn s ∧ w = F.full ∧ IntMulOk w d ∧ Q (resD (if md.lowGoes s (2 * u - w * d) = true then .num s F.full F.L else .zero s, .under)) M) md) f
  | _ => False
@[simp] theorem law_below_s {s u d w : Int} : φ_law_below [fmD F, mdD md, .int s, .int u, .int d, .int w] M Q E = (F.ok ∧ sgn s ∧ w = F.full ∧ IntMulOk w d ∧ Q (resD (if md.lowGoes s (2 * u - w * d) = true then .num s F.full F.L else .zero s, .under)) M) := by simp [φ_law_below]
theorem below_1 {a3 a4 a6 : Option D} (b : Bool) (h : Q (resD (if b = true then .num s F.full F.L else .zero s, .under)) M) :
    dSs Γ xm ir_law_below_k1 W (endS Q) [some (fmD F), some (mdD md), some (.int s), a3, a4, some (.int F.full), a6, some (.bl b)] M := by
  unfold ir_law_below_k1
  cases b with
  | true => simp; exact ends_rt h
  | false => simp; exact ends_rt h
theorem b_law_below (h : φ_law_below ds M Q E) : dSs Γ xm ir_law_below (endW E) (endS Q) (startD 8 ds) M := by
  unfold φ_law_below at h
  split at h
  · rename_i s u d w
    obtain ⟨F, rfl, ok, md, rfl, hs, rfl, hm, h⟩ := h
    unfold ir_law_below
    simp [startD, hm, small_mul (a := 2) (b := u) (by decide)]
    unfold ir_law_below_k2
    cases md
    case even =>
      simp [mdD, Md.nm]
      exact below_1 (md := .even) _ (by simpa [Md.lowGoes] using h)
    case away =>
      simp [mdD, Md.nm]
      exact below_1 (md := .away) _ (by simpa [Md.lowGoes] using h)
    case odd =>
      simp [mdD, Md.nm]
      exact below_1 (md := .odd) true (by simpa [Md.lowGoes] using h)
    case up =>
      rcases hs with rfl | rfl
      · simp [mdD, Md.nm]; exact below_1 (md := .up) true (by simpa [Md.lowGoes] using h)
      · simp [mdD, Md.nm]; exact below_1 (md := .up) false (by simpa [Md.lowGoes] using h)
    case down =>
      rcases hs with rfl | rfl
      · simp [mdD, Md.nm]; exact below_1 (md := .down) false (by simpa [Md.lowGoes] using h)
      · simp [mdD, Md.nm]; exact below_1 (md := .down) true (by simpa [Md.lowGoes] using h)
    case zero =>
      rcases hs with rfl | rfl
      · simp [mdD, Md.nm]; exact below_1 (md := .zero) false (by simpa [Md.lowGoes] using h)
      · simp [mdD, Md.nm]; exact below_1 (md := .zero) false (by simpa [Md.lowGoes] using h)
  · exact h.elim
end
end U
end
section
set_option maxHeartbeats 1000000
namespace U
open PySem PySem.Spec PyProof.Rows L2 DL
section
variable {Γ : List DSp} {xm : Nat → Nat → Option Bool} {ds : List D} {M : Mem} {Q : QD} {E : XD} {F : Fm} {v : Va} {md : Md} {x : Rat} {W : WD} {s : Int}
section
variable {a0 a2 a3 a4 a5 a6 a7 a9 a11 a15 a16 a17 a18 a19 a20 : Option D} {n e m hw left num den : Int} {few : Bool}
theorem rd_5 (hm : 0 ≤ m) (h0 : hw = 0 ↔ left = 0) (hf : few = true ↔ n < F.p) (hz : m = 0 → left ≠ 0 ∧ few = true) (hH : ¬ F.H < e) (h : Q (resD (F.done md s n hw m e)) M) :
    dSs Γ xm ir_law_round_k5 W (endS Q) [a0, some (mdD md), a2, a3, a4, a5, a6, a7, some (.int F.H), a9, some (.int s), a11, some (.int F.top), some (.int F.full), some (.int e), a15, a16, some (.int m), some (.int left), some (.bl few), a20] M := by
  unfold Fm.done at h
  rw [if_neg hH] at h
  unfold ir_law_round_k5
  by_cases hm0 : m = 0
  · obtain ⟨hl, hfw⟩ := hz hm0
    rw [if_pos hm0] at h
    simp [hl, hfw]
    unfold ir_law_round_k4
    simp [hm0]
    exact ends_rt h
  · rw [if_neg hm0] at h
    have hp : 0 < m := by omega
    obtain ⟨j, rfl⟩ := Int.eq_ofNat_of_zero_le hm
    replace hp : 0 < j := by omega
    by_cases hl : left = 0
    · have : hw = 0 := h0.mpr hl
      rw [if_pos this] at h
      simp [hl]
      unfold ir_law_round_k4
      simp [hp]
      exact ends_rt h
    · have : ¬ hw = 0 := fun z => hl (h0.mp z)
      rw [if_neg this] at h
      by_cases hfw : few = true
      · rw [if_pos (hf.mp hfw)] at h
        simp [hl, hfw]
        unfold ir_law_round_k4
        simp [hp]
        exact ends_rt h
      · rw [if_neg (fun z => hfw (hf.mpr z))] at h
        have hfw' : few = false := by simpa using hfw
        simp [hl, hfw']
        unfold ir_law_round_k4
        simp [hp]
        exact ends_rt h
theorem rd_6 (ok : F.ok) (hs : sgn s) (hm : 0 ≤ m) (h0 : hw = 0 ↔ left = 0) (hf : few = true ↔ n < F.p) (hz : m = 0 → left ≠ 0 ∧ few = true) (h : Q (resD (F.done md s n hw m e)) M) :
    dSs Γ xm ir_law_round_k6 W (endS Q) [a0, some (mdD md), a2, a3, a4, a5, a6, a7, some (.int F.H), a9, some (.int s), a11, some (.int F.top), some (.int F.full), some (.int e), a15, a16, some (.int m), some (.int left), some (.bl few), a20] M := by
  by_cases hH : F.H < e
  · unfold Fm.done at h
    rw [if_pos hH] at h
    have tp : 1 ≤ F.top := by have := ok.top_gt; omega
    have e1 : ((F.top : Int) - 1) = ((F.top - 1 : Nat) : Int) := by omega
    have inea : ∀ (d : Str) (M : Mem) (k : Bool → Prop), wIn (.str d) (.lst [.str "even", .str "away"]) M k = k (eqF (.str "even") (.str d) || eqF (.str "away") (.str d)) := fun d M k => by
      rw [in_lst rfl rfl]; simp
    have z0 : eqF (.str "even") (.str "even") = true := by decide +kernel
    have z1 : (eqF (.str "even") (.str "away") || eqF (.str "away") (.str "away")) = true := by decide +kernel
    have z2 : (eqF (.str "even") (.str "up") || eqF (.str "away") (.str "up")) = false := by decide +kernel
    have z3 : (eqF (.str "even") (.str "down") || eqF (.str "away") (.str "down")) = false := by decide +kernel
    have z4 : (eqF (.str "even") (.str "zero") || eqF (.str "away") (.str "zero")) = false := by decide +kernel
    have z5 : (eqF (.str "even") (.str "odd") || eqF (.str "away") (.str "odd")) = false := by decide +kernel
    have nz : (("zero" : Str) = "up") = False := by decide +kernel
    have nz2 : (("odd" : Str) = "zero") = False := by decide +kernel
    unfold ir_law_round_k6
    unfold Fm.far at h
    rcases hs with rfl | rfl <;> cases md <;> simp [Md.out] at h <;> simp [hH, inea, z0, z1, z2, z3, z4, z5, mdD, Md.nm, nz, nz2] <;> first | exact ends_rt h | (unfold ir_law_round_k3; simp; rw [e1]; exact ends_rt h)
  · unfold ir_law_round_k6
    simp [hH]
    exact rd_5 hm h0 hf hz hH h
theorem rd_8 (g : Γ[64]? = some φ_law_goes) (ok : F.ok) (hs : sgn s) (hm : 0 ≤ m) (h0 : hw = howT left den) (hf : few = true ↔ n < F.p) (hz : m = 0 → left ≠ 0 ∧ few = true)
    (h : Q (resD (if (if md.goes s m hw = true then m + 1 else m) = F.top then F.done md s n hw F.full (e + 1) else F.done md s n hw (if md.goes s m hw = true then m + 1 else m) e)) M) :
    dSs Γ xm ir_law_round_k8 W (endS Q) [a0, some (mdD md), a2, a3, a4, a5, a6, a7, some (.int F.H), a9, some (.int s), a11, some (.int F.top), some (.int F.full), some (.int e), a15, some (.int den), some (.int m), some (.int left), some (.bl few), a20] M := by
  have fp := ok.full_pos
  have h0' : hw = 0 ↔ left = 0 := by
    rw [h0]; unfold howT
    constructor
    · intro z
      split at z
      · assumption
      · split at z <;> (try split at z) <;> omega
    · intro z; rw [if_pos z]
  unfold ir_law_round_k8
  rw [h0] at h
  by_cases hg : md.goes s m (howT left den) = true
  · simp only [if_pos hg] at h
    simp [g, hs, hg]
    unfold ir_law_round_k7
    by_cases ht : m + 1 = F.top
    · rw [if_pos ht] at h
      simp [ht]
      rw [← h0] at h
      exact rd_6 ok hs (by omega) h0' hf (by omega) h
    · rw [if_neg ht] at h
      simp [ht]
      rw [← h0] at h
      exact rd_6 ok hs (by omega) h0' hf (by omega) h
  · simp only [if_neg hg] at h
    simp [g, hs, hg]
    unfold ir_law_round_k7
    by_cases ht : m = F.top
    · rw [if_pos ht] at h
      simp [ht]
      rw [← h0] at h
      exact rd_6 ok hs (by omega) h0' hf (by omega) h
    · rw [if_neg ht] at h
      simp [ht]
      rw [← h0] at h
      exact rd_6 ok hs hm h0' hf hz h
end
end
end U
end
section
set_option maxHeartbeats 1000000
namespace U
open PySem PySem.Spec PyProof.Rows L2 DL
/-- the left part, by its size -/
theorem near_sgn {t left den far : Int} (hd : 0 < den) (h0 : 0 ≤ left) (h2 : left < 2 * den) (hf : far = t * den + left) : (0 < nearI t (howT left den) ↔ 0 < far) ∧ (0 ≤ nearI t (howT left den) ↔ 0 ≤ far) := by
  unfold nearI
  by_cases h1 : t = -1
  · rw [if_pos h1]
    subst h1
    have : far = left - den := by omega
    unfold howT
    by_cases c0 : left = 0
    · simp [c0]; omega
    · by_cases c1 : left < den
      · simp [c0, c1]; omega
      · by_cases c2 : left = den
        · simp [c0, c1, c2]; omega
        · simp [c0, c1, c2]; omega
  · rw [if_neg h1]
    by_cases h3 : t < 0
    · rw [if_pos h3]
      have : t * den ≤ (-2) * den := Int.mul_le_mul_of_nonneg_right (by omega) (by omega)
      constructor
      · constructor <;> intro z <;> omega
      · constructor <;> intro z <;> omega
    · rw [if_neg h3]
      by_cases h4 : 0 < t
      · rw [if_pos (.inl h4)]
        have : 1 * den ≤ t * den := Int.mul_le_mul_of_nonneg_right (by omega) (by omega)
        constructor
        · constructor <;> intro z <;> omega
        · constructor <;> intro z <;> omega
      · have ht : t = 0 := by omega
        subst ht
        have hl : far = left := by omega
        unfold howT
        by_cases c0 : left = 0
        · simp [c0]; omega
        · by_cases c1 : left < den
          · simp [c0, c1]; omega
          · by_cases c2 : left = den
            · simp [c0, c1, c2]; omega
            · simp [c0, c1, c2]; omega
theorem low_goes {md : Md} {s a b : Int} (h1 : 0 < a ↔ 0 < b) (h2 : 0 ≤ a ↔ 0 ≤ b) : md.lowGoes s a = md.lowGoes s b := by
  cases md <;> simp [Md.lowGoes, h1, h2]
section
variable {Γ : List DSp} {xm : Nat → Nat → Option Bool} {ds : List D} {M : Mem} {Q : QD} {E : XD} {F : Fm} {v : Va} {md : Md} {x : Rat} {W : WD} {s : Int}
theorem put_few (ok : F.ok) (h1 : F.tiny = false) (h2 : F.nd x < F.p) : F.put md s x = F.low md s (F.mt x) (F.hw x) := by
  unfold Fm.put Fm.mt Fm.hw
  rw [if_pos ⟨h1, h2⟩, Fm.few_expo ok h2]
def Fm.mr (F : Fm) (md : Md) (s : Int) (x : Rat) : Int := if md.goes s (F.mt x) (F.hw x) = true then F.mt x + 1 else F.mt x
theorem put_all (h1 : ¬ (F.tiny = false ∧ F.nd x < F.p)) : F.put md s x = if F.mr md s x = F.top then F.done md s (F.nd x) (F.hw x) F.full (F.expo x + 1) else F.done md s (F.nd x) (F.hw x) (F.mr md s x) (F.expo x) := by
  unfold Fm.put
  rw [if_neg h1]
  rfl
/-- behind the loop: the exponent is found -/
theorem rd_12 {num den : Int} {a2 a3 a4 a5 a6 a7 a11 a17 a18 a19 a20 : Option D} (g1 : Γ[64]? = some φ_law_goes) (g2 : Γ[65]? = some φ_law_below) (ok : F.ok) (hs : sgn s) (hx : 0 < x) (hd : 0 < den) (hy : sc F.B x (F.expo x) = Rat.divInt num den)
    (c1 : CDv num den) (m1 : IntMulOk (num.fdiv den) den) (m2 : IntMulOk F.full den) (h : Q (resD (F.put md s x)) M) :
    dSs Γ xm ir_law_round_k12 W (endS Q) [some (fmD F), some (mdD md), a2, a3, a4, a5, a6, a7, some (.int F.H), some (.bl F.tiny), some (.int s), a11, some (.int F.top), some (.int F.full), some (.int (F.expo x)), some (.int num), some (.int den), a17, a18, a19, a20] M := by
  have e1 : F.mt x = num.fdiv den := by unfold Fm.mt; rw [hy, floor_div hd]
  have e2 : F.hw x = howT (2 * (num - num.fdiv den * den)) den := by unfold Fm.hw; rw [hy, how_div hd, howI_T]
  have mn := Fm.mt_nn ok hx
  have mf := Fm.mt_few ok hx
  have l1 : num.fdiv den * den ≤ num := by rw [← floor_div hd]; exact floor_lo hd
  have l2 : num < (num.fdiv den + 1) * den := by rw [← floor_div hd]; exact floor_hi hd
  rw [Int.add_mul, Int.one_mul] at l2
  unfold ir_law_round_k12
  simp [c1]
  unfold ir_law_round_k11
  simp [m1, small_mul (a := 2) (b := num - num.fdiv den * den) (by decide)]
  unfold ir_law_round_k10
  simp
  rw [e1] at mn mf
  by_cases hlow : F.tiny = false ∧ F.nd x < F.p
  · obtain ⟨t1, t2⟩ := hlow
    rw [put_few ok t1 t2] at h
    have t3 := mf.mpr t2
    unfold ir_law_round_k9
    simp [t1, t3, g2, ok, hs, m2]
    refine ends_rt ?_
    unfold Fm.low at h
    rw [e1, e2] at h
    have ns := near_sgn (t := 2 * num.fdiv den - F.full) (far := 2 * num - F.full * den) hd (show 0 ≤ 2 * (num - num.fdiv den * den) by omega) (by omega) (by grind)
    rw [low_goes ns.1 ns.2] at h
    exact h
  · rw [put_all hlow] at h
    unfold Fm.mr at h
    rw [e1] at h
    have hz : num.fdiv den = 0 → 2 * (num - num.fdiv den * den) ≠ 0 ∧ decide (num.fdiv den < (F.full : Int)) = true := fun z => by
      have fp := ok.full_pos
      refine ⟨fun z2 => ?_, by rw [z]; simpa using fp⟩
      rw [z] at z2
      have : num = 0 := by omega
      have : sc F.B x (F.expo x) = 0 := by rw [hy, this, Rat.zero_divInt]
      have := sc_pos ok hx (F.expo x)
      grind
    have fall : dSs Γ xm ir_law_round_k8 W (endS Q) [some (fmD F), some (mdD md), a2, a3, a4, a5, a6, a7, some (.int F.H), some (.bl F.tiny), some (.int s), a11, some (.int F.top), some (.int F.full), some (.int (F.expo x)), some (.int num), some (.int den), some (.int (num.fdiv den)), some (.int (2 * (num - num.fdiv den * den))), some (.bl (decide (num.fdiv den < (F.full : Int)))), a20] M :=
      rd_8 g1 ok hs mn e2 (by rw [← mf]; simp) hz h
    unfold ir_law_round_k9
    by_cases ht : F.tiny = true
    · simp only [ht] at fall ⊢
      by_cases t3 : num.fdiv den < (F.full : Int)
      · simp [t3] at fall ⊢; exact fall
      · simp [t3] at fall ⊢; exact fall
    · have ht' : F.tiny = false := by simpa using ht
      have t3 : ¬ num.fdiv den < (F.full : Int) := fun z => hlow ⟨ht', mf.mp z⟩
      simp [t3] at fall ⊢; exact fall
end
end U
end
section
set_option maxHeartbeats 1000000
namespace U
open PySem PySem.Spec PyProof.Rows L2 DL
/-- a numerator and a denominator that can be reckoned with here -/
structure Lw (a b : Int) : Prop where
  pos : 0 < b
  an : a.natAbs < 2 ^ 3000
  bn : b.natAbs < 2 ^ 3000
  up : ab (Rat.divInt a b) < pw (2 : Nat) 900
theorem abI (a : Int) : (if a < 0 then -a else a).natAbs = a.natAbs := by split <;> omega
theorem Lw.nm {a b : Int} (h : Lw a b) : Nm (ab (Rat.divInt a b)) := by
  refine ⟨?_, h.up⟩
  rw [ab_div h.pos]
  have h1 := h.pos
  refine divInt_sz (by omega) (by rw [abI]; exact pow_mono h.an (by decide)) (pow_mono h.bn (by decide))
section
variable {Γ : List DSp} {xm : Nat → Nat → Option Bool} {ds : List D} {M : Mem} {Q : QD} {E : XD} {F : Fm} {v : Va} {md : Md} {x : Rat} {W : WD} {s : Int}
theorem bpow_lt {B j n : Nat} (h : B ≤ 2 ^ 4) (hj : 4 * j + 1 ≤ n) : ((B : Int) ^ j).natAbs < 2 ^ n := by
  rw [Int.natAbs_pow]
  exact pow_mono (natpow_lt h) hj
theorem mul_abs {a b : Int} {m n k : Nat} (h1 : a.natAbs < 2 ^ m) (h2 : b.natAbs < 2 ^ n) (hk : m + n ≤ k) : (a * b).natAbs < 2 ^ k := by
  rw [Int.natAbs_mul]
  exact pow_mono (U.mul_lt h1 h2) hk
theorem rd_13 {u b : Int} {a2 a3 a4 a6 a7 a11 a17 a18 a19 a20 : Option D} (g1 : Γ[64]? = some φ_law_goes) (g2 : Γ[65]? = some φ_law_below) (ok : F.ok) (hs : sgn s) (hb : 0 < b) (hx : 0 < Rat.divInt u b) (nm : Nm (Rat.divInt u b))
    (sa : u.natAbs < 2 ^ 3000) (sb : b.natAbs < 2 ^ 3000) (h : Q (resD (F.put md s (Rat.divInt u b))) M) :
    dSs Γ xm ir_law_round_k13 W (endS Q) [some (fmD F), some (mdD md), a2, a3, a4, some (.int F.B), a6, a7, some (.int F.H), some (.bl F.tiny), some (.int s), a11, some (.int F.top), some (.int F.full), some (.int F.L), some (.int (u * (F.B : Int) ^ (-F.L).toNat)), some (.int (b * (F.B : Int) ^ F.L.toNat)), a17, a18, a19, a20] M := by
  have l1 := ok.l1; have h2 := ok.h2; have lh := ok.lh; have b2 := ok.b2; have b4 := ok.b_lt; have bp := ok.bp
  have ehi := expo_hi ok hx nm
  obtain ⟨g3, g4, g5⟩ := Fm.expo_spec ok hx
  generalize hxx : Rat.divInt u b = x at *
  have bpos : (0 : Int) < F.B := by omega
  have sN : (u * (F.B : Int) ^ (-F.L).toNat).natAbs < 2 ^ 4601 := mul_abs (m := 3000) (n := 1601) sa (bpow_lt b4 (by omega)) (by omega)
  have sD : (b * (F.B : Int) ^ F.L.toNat).natAbs < 2 ^ 3601 := mul_abs (m := 3000) (n := 601) sb (bpow_lt b4 (by omega)) (by omega)
  have pD : 0 < b * (F.B : Int) ^ F.L.toNat := Int.mul_pos hb (Int.pow_pos bpos)
  have sc0 : sc F.B x F.L = Rat.divInt (u * (F.B : Int) ^ (-F.L).toNat) (b * (F.B : Int) ^ F.L.toNat) := by rw [← hxx, sc_div]
  generalize u * (F.B : Int) ^ (-F.L).toNat = num at *
  generalize b * (F.B : Int) ^ F.L.toNat = den at *
  unfold ir_law_round_k13
  rw [ss_cons, s_whl]
  refine whl_inv (fun n δ M' => ∃ j : Nat, n = (F.expo x - F.L).toNat - j ∧ F.L + j ≤ F.expo x ∧ M' = M ∧ δ = [some (fmD F), some (mdD md), a2, a3, a4, some (.int F.B), a6, a7, some (.int F.H), some (.bl F.tiny), some (.int s), a11, some (.int F.top), some (.int F.full), some (.int (F.L + j)), some (.int num), some (.int (den * (F.B : Int) ^ j)), a17, a18, a19, a20]) ((F.expo x - F.L).toNat) ⟨0, by omega, by omega, rfl, by simp⟩ ?_
  rintro n δ M' ⟨j, rfl, hj, rfl, rfl⟩ nx hnx
  have scj : sc F.B x (F.L + j) = Rat.divInt num (den * (F.B : Int) ^ j) := by rw [sc_step bp, sc0, Rat.divInt_mul_divInt, Int.mul_one]
  have pj : 0 < den * (F.B : Int) ^ j := Int.mul_pos pD (Int.pow_pos bpos)
  have sj : (den * (F.B : Int) ^ j).natAbs < 2 ^ 8802 := mul_abs (m := 3601) (n := 5201) sD (bpow_lt b4 (by omega)) (by omega)
  have st : ((F.top : Nat) : Int).natAbs < 2 ^ 241 := by have := ok.top_lt; rw [Int.natAbs_natCast]; omega
  have sf : ((F.full : Nat) : Int).natAbs < 2 ^ 241 := by have := ok.top_lt; have := ok.top_gt; rw [Int.natAbs_natCast]; omega
  have m1 : IntMulOk F.top (den * (F.B : Int) ^ j) := mulOk st sj (by omega)
  have cond : (F.top : Int) * (den * (F.B : Int) ^ j) ≤ num ↔ pw F.B (F.p + (F.L + j)) ≤ x := by
    rw [← pow_le_sc bp, scj, floor_div pj, Int.fdiv_eq_ediv_of_nonneg _ (Int.le_of_lt pj), Int.le_ediv_iff_mul_le pj]
    rfl
  unfold ir_law_round_c1
  simp [m1]
  by_cases hc : (F.top : Int) * (den * (F.B : Int) ^ j) ≤ num
  · have h5 := cond.mp hc
    have := pw_lt_inv b2 (rle_lt h5 g4)
    simp [hc]
    unfold ir_law_round_b2
    have m2 : IntMulOk (den * (F.B : Int) ^ j) F.B := mulOk (n := 5) sj (by rw [Int.natAbs_natCast]; omega) (by omega)
    simp [m2]
    refine hnx ((F.expo x - F.L).toNat - (j + 1)) _ _ (by omega) ⟨j + 1, rfl, by omega, rfl, ?_⟩
    have e1 : F.L + (j : Int) + 1 = F.L + ((j + 1 : Nat) : Int) := by omega
    rw [e1, Int.pow_succ, Int.mul_assoc]
  · have h5 : x < pw F.B (F.p + (F.L + j)) := Rat.not_le.mp fun z => hc (cond.mpr z)
    simp [hc]
    have he : F.L + (j : Int) = F.expo x := by
      rcases g5 with g5 | g5
      · omega
      · have := pw_lt_inv b2 (rle_lt g5 h5)
        omega
    rw [he] at scj ⊢
    have m3 : IntMulOk (num.fdiv (den * (F.B : Int) ^ j)) (den * (F.B : Int) ^ j) := by
      refine mulOk (m := 4602) ?_ sj (by omega)
      rw [Int.fdiv_eq_ediv_of_nonneg _ (Int.le_of_lt pj)]
      have := Int.natAbs_ediv_le_natAbs num (den * (F.B : Int) ^ j)
      have h3 : (2 : Nat) ^ 4601 ≤ 2 ^ 4602 := Nat.pow_le_pow_right (by decide) (by decide)
      exact Nat.lt_of_le_of_lt this (Nat.lt_of_lt_of_le sN h3)
    exact rd_12 g1 g2 ok hs hx pj scj (cdv (by omega) (pow_mono sj (by decide))) m3 (mulOk sf sj (by omega)) h
def φ_law_round : DSp := fun l M Q _ => match l with
  | [f, md, .int a, .int b, .int s] => onF (fun F => onM (fun md => Lw a b ∧ Q (resD (F.rnd md (Rat.divInt a b) s)) M) md) f
  | _ => False
@[simp] theorem law_round_s {a b s : Int} : φ_law_round [fmD F, mdD md, .int a, .int b, .int s] M Q E = (F.ok ∧ Lw a b ∧ Q (resD (F.rnd md (Rat.divInt a b) s)) M) := by simp [φ_law_round]
theorem sg_sgn (x : Rat) : sgn (sg x) := by unfold sg sgn; split <;> simp
theorem b_law_round (g1 : Γ[64]? = some φ_law_goes) (g2 : Γ[65]? = some φ_law_below) (g3 : Γ[61]? = some φ_law_raise) (h : φ_law_round ds M Q E) : dSs Γ xm ir_law_round (endW E) (endS Q) (startD 21 ds) M := by
  unfold φ_law_round at h
  split at h
  · rename_i a b s
    obtain ⟨F, rfl, ok, md, rfl, lw, h⟩ := h
    have bz := lw.pos
    have l1 := ok.l1; have h2 := ok.h2; have lh := ok.lh; have b2 := ok.b2; have b16 := ok.b16; have b4 := ok.b_lt; have bp := ok.bp; have p1 := ok.p1; have p2 := ok.p2
    unfold ir_law_round
    simp [startD]
    unfold ir_law_round_k17
    unfold Fm.rnd at h
    by_cases h0 : a = 0
    · rw [if_pos ((div_zero bz).mpr h0)] at h
      simp [h0]
      exact ends_rt h
    · rw [if_neg (fun z => h0 ((div_zero bz).mp z)), sg_div bz] at h
      simp [h0]
      unfold ir_law_round_k16
      have step : ∀ o : Int, sgn o → Q (resD (F.put md o (ab (Rat.divInt a b)))) M → dSs Γ xm ir_law_round_k15 (endW E) (endS Q) [some (fmD F), some (mdD md), some (.int a), some (.int b), some (.int s), some (.int F.B), some (.int F.p), some (.int F.L), some (.int F.H), some (.bl F.tiny), some (.int o), some (.int (if a < 0 then -a else a)), none, none, none, none, none, none, none, none, none] M := by
        intro o ho h
        rw [ab_div bz] at h
        have nm := lw.nm
        rw [ab_div bz] at nm
        have sa := lw.an
        rw [← abI] at sa
        generalize hu : (if a < 0 then -a else a) = u at *
        have up : 0 < u := by rw [← hu]; split <;> omega
        have hx : 0 < Rat.divInt u b := by
          have := (dlt (a := 0) (b := 1) (c := u) (d := b) (by decide) bz).mpr (by omega)
          rw [Rat.zero_divInt] at this
          exact this
        unfold ir_law_round_k15
        have e1 : (F.p : Int).toNat = F.p := by omega
        have e2 : ((F.p : Int) - 1).toNat = F.p - 1 := by omega
        have e3 : ((F.B : Nat) : Int) ^ F.p = (F.top : Nat) := by unfold Fm.top; simp
        have e4 : ((F.B : Nat) : Int) ^ (F.p - 1) = (F.full : Nat) := by unfold Fm.full; simp
        have s1 : (F.p : Int) ≤ 100000 := by omega
        have s2 : -100000 ≤ (F.p : Int) := by omega
        have s3 : (F.p : Int) - 1 ≤ 100000 := by omega
        have s4 : -100000 ≤ (F.p : Int) - 1 := by omega
        simp [g3, e1, e2, e3, e4, s1, s2, s3, s4, b16]
        unfold ir_law_round_k14
        simp [g3, b16]
        have t1 : (if F.L < 0 then -F.L else 0) ≤ 100000 := by split <;> omega
        have t2 : (if 0 < F.L then F.L else 0) ≤ 100000 := by split <;> omega
        have t3 : -100000 ≤ (if F.L < 0 then -F.L else 0) := by split <;> omega
        have t4 : -100000 ≤ (if 0 < F.L then F.L else 0) := by split <;> omega
        have t5 : (if F.L < 0 then -F.L else 0).toNat = (-F.L).toNat := by split <;> omega
        have t6 : (if 0 < F.L then F.L else 0).toNat = F.L.toNat := by split <;> omega
        have i1 : IntMulOk u ((F.B : Int) ^ (-F.L).toNat) := mulOk (n := 1601) sa (bpow_lt b4 (by omega)) (by omega)
        have i2 : IntMulOk b ((F.B : Int) ^ F.L.toNat) := mulOk (n := 601) lw.bn (bpow_lt b4 (by omega)) (by omega)
        simp only [t5, t6]
        refine ⟨t1, ⟨i1, t2, ⟨i2, ?_⟩, t4⟩, t3⟩
        exact rd_13 g1 g2 ok ho bz hx nm sa lw.bn h
      by_cases hp : 0 < a
      · rw [if_pos hp] at h
        simp [hp]
        exact step 1 (.inl rfl) h
      · rw [if_neg hp] at h
        simp [hp]
        exact step (-1) (.inr rfl) h
  · exact h.elim
end
end U
end
section
set_option maxHeartbeats 1000000
namespace U
open PySem PySem.Spec PyProof.Rows L2 DL
theorem at_mem {α : Type} {xs : List α} {v : Int} (h0 : 0 ≤ v) (h1 : v < xs.length) : ∃ d ∈ xs, atI xs v = some d := by
  rw [at_int h0]
  have : v.toNat < xs.length := by omega
  exact ⟨xs[v.toNat], List.getElem_mem _, List.getElem?_eq_getElem this⟩
/-- formats as they are drawn -/
structure Fm.dr (F : Fm) : Prop where
  b : F.B = 2 ∨ F.B = 3 ∨ F.B = 5 ∨ F.B = 10 ∨ F.B = 16
  p1 : 1 ≤ F.p
  p4 : F.p ≤ 4
  l1 : -4 ≤ F.L
  l2 : F.L ≤ 1
  lh : F.L ≤ F.H
  h2 : F.H ≤ F.L + 4
/-- .. and wider ones -/
structure Fm.wd (F : Fm) : Prop where
  b2 : 2 ≤ F.B
  b16 : F.B ≤ 16
  p1 : 1 ≤ F.p
  p2 : F.p ≤ 11
  l1 : -31 ≤ F.L
  lh : F.L ≤ F.H
  h2 : F.H ≤ 35
theorem Fm.dr.wd {F : Fm} (h : F.dr) : F.wd := by
  have h1 := h.b; have h2 := h.p1; have h3 := h.p4; have h4 := h.l1; have h5 := h.l2; have h6 := h.lh; have h7 := h.h2
  exact ⟨by omega, by omega, by omega, by omega, by omega, by omega, by omega⟩
theorem Fm.wd.ok {F : Fm} (h : F.wd) : F.ok := by
  have h1 := h.b2; have h2 := h.b16; have h3 := h.p1; have h4 := h.p2; have h5 := h.l1; have h6 := h.lh; have h7 := h.h2
  exact ⟨by omega, by omega, by omega, by omega, by omega, by omega, by omega⟩
theorem Fm.dr.ok {F : Fm} (h : F.dr) : F.ok := h.wd.ok
section
variable {Γ : List DSp} {xm : Nat → Nat → Option Bool} {ds : List D} {M : Mem} {Q : QD} {E : XD} {F : Fm} {v : Va} {md : Md} {x : Rat} {W : WD} {s : Int} {p : Addr} {o : MO}
/-- the drawing list stands at p -/
def Dw (p : Addr) (M : Mem) : Prop := ∃ o, M p = some o ∧ DrS o
theorem Dw.put (ho : DrS o) : Dw p (M.put p o) := ⟨o, Mem.put_same, ho⟩
theorem Dw.form (h : Dw p M) : ∃ (M0 : Mem) (o : MO), M = M0.put p o ∧ DrS o := by
  obtain ⟨o, e, ho⟩ := h
  exact ⟨M, o, (Mem.put_self e).symm, ho⟩
theorem draw_d {n : Int} (h0 : 0 < n) (hn : n < 2 ^ 62) (ho : Dw p M) (h : ∀ v o, 0 ≤ v → v < n → DrS o → Q (.int v) (M.put p o)) : φ_law_draw [.ref p, .int n] M Q E :=
  ⟨h0, by
    have : n.natAbs < 2 ^ 62 := by omega
    exact pow_mono this (by decide), ho, h⟩
theorem draw_m {n : Int} (h0 : 0 < n) (hn : n < 2 ^ 62) (ho : DrS o) (h : ∀ v o, 0 ≤ v → v < n → DrS o → Q (.int v) (M.put p o)) : φ_law_draw [.ref p, .int n] (M.put p o) Q E :=
  draw_s h0 (by
    have : n.natAbs < 2 ^ 62 := by omega
    exact pow_mono this (by decide)) ho h
theorem idx_in {xs : List D} {v : Int} (h0 : 0 ≤ v) (h1 : v < xs.length) (h : ∀ d ∈ xs, Q d M) : wIdx (.lst xs) (.int v) M Q := by
  obtain ⟨d, hd, e⟩ := at_mem h0 h1
  rw [idx_lst, e, opt_s]
  exact h d hd
def φ_law_pick : DSp := fun l M Q _ => match l with
  | [.ref p, .lst xs] => Dw p M ∧ xs ≠ [] ∧ xs.length ≤ 4096 ∧ ∀ d ∈ xs, ∀ o, DrS o → Q d (M.put p o)
  | _ => False
theorem pick_m {xs : List D} (ho : DrS o) (h0 : xs ≠ []) (hl : xs.length ≤ 4096) (h : ∀ d ∈ xs, ∀ o, DrS o → Q d (M.put p o)) : φ_law_pick [.ref p, .lst xs] (M.put p o) Q E :=
  ⟨.put ho, h0, hl, fun d hd o' ho' => by rw [Mem.put_put]; exact h d hd o' ho'⟩
theorem b_law_pick (g : Γ[23]? = some φ_law_draw) (h : φ_law_pick ds M Q E) : dSs Γ xm ir_law_pick (endW E) (endS Q) (startD 2 ds) M := by
  unfold φ_law_pick at h
  split at h
  · rename_i p xs
    obtain ⟨hd, h0, hl, h⟩ := h
    have := List.length_pos_iff.mpr h0
    unfold ir_law_pick
    simp [startD, g, -idx_lst]
    refine draw_d (by omega) (by omega) hd fun v o hv0 hv1 ho => ?_
    exact idx_in hv0 hv1 fun d hd => ends_rt (h d hd o ho)
  · exact h.elim
def φ_law_mode : DSp := fun l M Q _ => match l with
  | [.ref p] => Dw p M ∧ ∀ (md : Md) o, DrS o → Q (mdD md) (M.put p o)
  | _ => False
theorem b_law_mode (g : Γ[23]? = some φ_law_draw) (h : φ_law_mode ds M Q E) : dSs Γ xm ir_law_mode (endW E) (endS Q) (startD 1 ds) M := by
  unfold φ_law_mode at h
  split at h
  · rename_i p
    obtain ⟨hd, h⟩ := h
    unfold ir_law_mode
    simp [startD, g, -idx_lst]
    refine draw_d (by omega) (by omega) hd fun v o hv0 hv1 ho => idx_in hv0 (by simpa using hv1) fun d hd => ends_rt ?_
    simp at hd
    rcases hd with rfl | rfl | rfl | rfl | rfl | rfl
    · exact h .even o ho
    · exact h .away o ho
    · exact h .up o ho
    · exact h .down o ho
    · exact h .zero o ho
    · exact h .odd o ho
  · exact h.elim
def φ_law_format : DSp := fun l M Q _ => match l with
  | [.ref p] => Dw p M ∧ ∀ F o, F.dr → DrS o → Q (fmD F) (M.put p o)
  | _ => False
theorem b_law_format (g : Γ[23]? = some φ_law_draw) (h : φ_law_format ds M Q E) : dSs Γ xm ir_law_format (endW E) (endS Q) (startD 3 ds) M := by
  unfold φ_law_format at h
  split at h
  · rename_i p
    obtain ⟨hd, h⟩ := h
    unfold ir_law_format
    simp [startD, g, -idx_lst]
    refine draw_d (by omega) (by omega) hd fun v o hv0 hv1 ho => idx_in hv0 (by simpa using hv1) fun d hd => ?_
    refine draw_m (by omega) (by omega) ho fun v1 o1 h10 h11 ho1 => ?_
    simp only [bin_sub]
    refine draw_m (by omega) (by omega) ho1 fun v2 o2 h20 h21 ho2 => ?_
    simp only [bin_add]
    refine draw_m (by omega) (by omega) ho2 fun v3 o3 h30 h31 ho3 => ?_
    simp only [bin_add]
    refine draw_m (by omega) (by omega) ho3 fun v4 o4 h40 h41 ho4 => ?_
    obtain ⟨B, hB, rfl⟩ : ∃ B : Nat, (B = 2 ∨ B = 3 ∨ B = 5 ∨ B = 10 ∨ B = 16) ∧ d = .int B := by
      simp at hd
      rcases hd with rfl | rfl | rfl | rfl | rfl
      · exact ⟨2, by omega, rfl⟩
      · exact ⟨3, by omega, rfl⟩
      · exact ⟨10, by omega, rfl⟩
      · exact ⟨16, by omega, rfl⟩
      · exact ⟨5, by omega, rfl⟩
    simp
    refine ends_rt ?_
    have := h ⟨B, (1 + v2).toNat, v1 - 4, v1 - 4 + v3, decide (0 < v4)⟩ o4 ⟨hB, by simp; omega, by simp; omega, by simp; omega, by simp; omega, by simp; omega, by simp; omega⟩ ho4
    unfold fmD at this
    simp only at this
    have e : (((1 + v2).toNat : Nat) : Int) = 1 + v2 := by omega
    rw [e] at this
    exact this
  · exact h.elim
/-- formats with few numbers -/
def Fm.fw (F : Fm) : Prop := F.dr ∧ F.top ≤ 100
def φ_law_few : DSp := fun l M Q _ => match l with
  | [.ref p] => Dw p M ∧ ∀ F o, F.fw → DrS o → Q (fmD F) (M.put p o)
  | _ => False
theorem b_law_few (g : Γ[62]? = some φ_law_format) (h : φ_law_few ds M Q E) : dSs Γ xm ir_law_few (endW E) (endS Q) (startD 6 ds) M := by
  unfold φ_law_few at h
  split at h
  · rename_i p
    obtain ⟨hd, h⟩ := h
    unfold ir_law_few
    simp [startD, g]
    refine ⟨hd, fun F o hF ho => ?_⟩
    have p1 := hF.p1
    have p4 := hF.p4
    have key : ∀ k : Nat, 1 ≤ k → (F.B ^ k ≤ 100) → Q (.tup [.int F.B, .int (if (k : Int) < F.p then (k : Int) else F.p), .int F.L, .int F.H, .bl F.tiny]) (M.put p o) := fun k hk hB => by
      have := h ⟨F.B, min k F.p, F.L, F.H, F.tiny⟩ o ⟨⟨hF.b, by simp; omega, by simp; omega, hF.l1, hF.l2, hF.lh, hF.h2⟩, by
        show F.B ^ min k F.p ≤ 100
        have hb : 0 < F.B := hF.ok.bp
        exact Nat.le_trans (Nat.pow_le_pow_right hb (Nat.min_le_left _ _)) hB⟩ ho
      unfold fmD at this
      simp only at this
      have e : ((min k F.p : Nat) : Int) = (if (k : Int) < F.p then (k : Int) else F.p) := by split <;> omega
      rw [e] at this
      exact this
    rcases hF.b with hb | hb | hb | hb | hb
    · rw [hb] at key
      simp [hb, dgV]
      exact ends_rt (key 4 (by decide) (by decide))
    · rw [hb] at key
      simp [hb, dgV]
      exact ends_rt (key 3 (by decide) (by decide))
    · rw [hb] at key
      simp [hb, dgV]
      exact ends_rt (key 2 (by decide) (by decide))
    · rw [hb] at key
      simp [hb, dgV]
      exact ends_rt (key 2 (by decide) (by decide))
    · rw [hb] at key
      simp [hb, dgV]
      exact ends_rt (key 1 (by decide) (by decide))
  · exact h.elim
end
end U
end
section
set_option maxHeartbeats 1000000
namespace U
open PySem PySem.Spec PyProof.Rows L2 DL
section
variable {Γ : List DSp} {xm : Nat → Nat → Option Bool} {ds : List D} {M : Mem} {Q : QD} {E : XD} {F : Fm} {v : Va} {md : Md} {x : Rat} {W : WD} {s : Int} {p : Addr} {o : MO}
def Va.isNum : Va → Bool
  | .num _ _ _ => true
  | _ => false
theorem Fm.wd.top_lt (h : F.wd) : F.top ≤ 2 ^ 44 := by
  unfold Fm.top
  calc F.B ^ F.p ≤ (2 ^ 4) ^ F.p := Nat.pow_le_pow_left h.ok.b_lt _
    _ = 2 ^ (4 * F.p) := by rw [← Nat.pow_mul]
    _ ≤ 2 ^ 44 := Nat.pow_le_pow_right (by decide) (by have := h.p2; omega)
def φ_law_number : DSp := fun l M Q _ => match l with
  | [.ref p, f] => onF (fun F => F.wd ∧ Dw p M ∧ ∀ (v : Va) o, v.isNum = true → v.ok F → DrS o → Q (vaD v) (M.put p o)) f
  | _ => False
theorem num_1 {a1 a2 a3 a4 a5 a6 a7 : Option D} {m e : Int} (g : Γ[23]? = some φ_law_draw) (ho : DrS o) (hm : 0 ≤ m) (h : ∀ s o, sgn s → DrS o → Q (vaD (.num s m.toNat e)) (M.put p o)) :
    dSs Γ xm ir_law_number_k1 W (endS Q) [some (.ref p), a1, a2, a3, a4, a5, a6, a7, some (.int e), some (.int m)] (M.put p o) := by
  obtain ⟨j, rfl⟩ := Int.eq_ofNat_of_zero_le hm
  unfold ir_law_number_k1
  simp [g, -idx_lst]
  refine draw_m (by omega) (by omega) ho fun v o hv0 hv1 ho => idx_in hv0 (by simpa using hv1) fun d hd => ends_rt ?_
  simp at hd
  rcases hd with rfl | rfl
  · exact h 1 o (.inl rfl) ho
  · exact h (-1) o (.inr rfl) ho
theorem b_law_number (g : Γ[23]? = some φ_law_draw) (g2 : Γ[61]? = some φ_law_raise) (h : φ_law_number ds M Q E) : dSs Γ xm ir_law_number (endW E) (endS Q) (startD 10 ds) M := by
  unfold φ_law_number at h
  split at h
  · rename_i p _
    obtain ⟨F, rfl, ok, wd, hd, h⟩ := h
    have p1 := ok.p1; have b16 := ok.b16; have lh := ok.lh; have fp := ok.full_pos; have tg := ok.top_gt; have tl := wd.top_lt; have p2 := wd.p2; have w1 := wd.l1; have w2 := wd.h2
    have te := ok.top_eq
    have e2 : ((F.p : Int) - 1).toNat = F.p - 1 := by omega
    have e4 : ((F.B : Nat) : Int) ^ (F.p - 1) = (F.full : Nat) := by unfold Fm.full; simp
    have s3 : (F.p : Int) - 1 ≤ 100000 := by omega
    have s4 : -100000 ≤ (F.p : Int) - 1 := by omega
    have mo : IntMulOk F.full F.B := small_mul (by omega)
    have e5 : (F.full : Int) * F.B = F.top := by rw [te]; simp
    obtain ⟨M0, o0, rfl, ho0⟩ := hd.form
    simp only [Mem.put_put] at h
    unfold ir_law_number
    simp [startD]
    unfold ir_law_number_k5
    simp [g2, e2, e4, s3, s4, b16]
    unfold ir_law_number_k4
    simp [g]
    refine draw_m (by omega) (by omega) ho0 fun v1 o1 h10 h11 ho1 => ?_
    simp
    unfold ir_law_number_k3
    simp [g, mo, e5]
    refine draw_m (by omega) (by omega) ho1 fun v2 o2 h20 h21 ho2 => ?_
    simp
    have fin : ∀ o, DrS o → dSs Γ xm ir_law_number_k1 (endW E) (endS Q) [some (.ref p), some (fmD F), some (.int F.B), some (.int F.p), some (.int F.L), some (.int F.H), some (.bl F.tiny), some (.int F.full), some (.int (F.L + v1)), some (.int (F.full + v2))] (M0.put p o) := fun o ho =>
      num_1 g ho (by omega) fun s o hs ho => h _ _ rfl ⟨hs, by omega, by omega, by omega, by omega, .inl (by omega)⟩ ho
    unfold ir_law_number_k2
    by_cases ht : F.tiny = true
    · by_cases hf : (1 : Int) < F.full
      · simp [ht, hf, g] at fin ⊢
        refine draw_m (by omega) (by omega) ho2 fun v3 o3 h30 h31 ho3 => ?_
        by_cases h3 : v3 = 0
        · simp [h3, g]
          refine draw_m (by omega) (by omega) ho3 fun v4 o4 h40 h41 ho4 => ?_
          simp
          exact num_1 g ho4 (by omega) fun s o hs ho => h _ _ rfl ⟨hs, by omega, by omega, by omega, by omega, .inr ⟨ht, rfl⟩⟩ ho
        · simp [h3]
          exact fin o3 ho3
      · simp [ht, hf] at fin ⊢
        exact fin o2 ho2
    · have ht' : F.tiny = false := by simpa using ht
      simp [ht'] at fin ⊢
      exact fin o2 ho2
  · exact h.elim
def φ_law_wide : DSp := fun l M Q _ => match l with
  | [.ref p, f] => ∃ F, f = fmD F ∧ F.dr ∧ Dw p M ∧ ∀ W o, Fm.wd W → DrS o → Q (fmD W) (M.put p o)
  | _ => False
theorem b_law_wide (g : Γ[23]? = some φ_law_draw) (g1 : Γ[62]? = some φ_law_format) (g2 : Γ[75]? = some φ_law_pick) (h : φ_law_wide ds M Q E) : dSs Γ xm ir_law_wide (endW E) (endS Q) (startD 9 ds) M := by
  unfold φ_law_wide at h
  split at h
  · rename_i p _
    obtain ⟨F, rfl, dr, hd, h⟩ := h
    have h1 := dr.b; have h2 := dr.p1; have h3 := dr.p4; have h4 := dr.l1; have h5 := dr.l2; have h6 := dr.lh; have h7 := dr.h2
    obtain ⟨M0, o0, rfl, ho0⟩ := hd.form
    simp only [Mem.put_put] at h
    unfold ir_law_wide
    simp [startD, g]
    refine draw_m (by omega) (by omega) ho0 fun v1 o1 h10 h11 ho1 => ?_
    by_cases hv : v1 = 0
    · simp [hv, g1]
      refine ⟨.put ho1, fun F o hF ho => ?_⟩
      simp only [Mem.put_put]
      exact ends_rt (h F o hF.wd ho)
    · simp [hv, g2]
      refine pick_m ho1 (by simp) (by simp) fun d hd o2 ho2 => ?_
      obtain ⟨m, rfl, hm0, hm7⟩ : ∃ m : Int, d = .int m ∧ 0 ≤ m ∧ m ≤ 7 := by
        simp at hd
        rcases hd with rfl | rfl | rfl | rfl | rfl | rfl <;> exact ⟨_, rfl, by omega, by omega⟩
      simp
      refine pick_m ho2 (by simp) (by simp) fun d hd o3 ho3 => ?_
      obtain ⟨n, rfl, hn0, hn7⟩ : ∃ m : Int, d = .int m ∧ 0 ≤ m ∧ m ≤ 27 := by
        simp at hd
        rcases hd with rfl | rfl | rfl | rfl | rfl | rfl <;> exact ⟨_, rfl, by omega, by omega⟩
      simp
      refine pick_m ho3 (by simp) (by simp) fun d hd o4 ho4 => ?_
      obtain ⟨u, rfl, hu0, hu7⟩ : ∃ m : Int, d = .int m ∧ 0 ≤ m ∧ m ≤ 30 := by
        simp at hd
        rcases hd with rfl | rfl | rfl | rfl <;> exact ⟨_, rfl, by omega, by omega⟩
      simp [g]
      refine draw_m (by omega) (by omega) ho4 fun v5 o5 h50 h51 ho5 => ?_
      have key : ∀ t : Bool, Q (.tup [.int F.B, .int (F.p + m), .int (F.L - n), .int (F.H + u), .bl t]) (M0.put p o5) := fun t => by
        have := h ⟨F.B, (F.p + m).toNat, F.L - n, F.H + u, t⟩ o5 ⟨by simp; omega, by simp; omega, by simp; omega, by simp; omega, by simp; omega, by simp; omega, by simp; omega⟩ ho5
        unfold fmD at this
        simp only at this
        have e : ((((F.p : Int) + m).toNat : Nat) : Int) = F.p + m := by omega
        rw [e] at this
        exact this
      by_cases h5 : 0 < v5
      · simp [h5]; exact ends_rt (key _)
      · simp [h5]; exact ends_rt (key _)
  · exact h.elim
end
end U
end
section
set_option maxHeartbeats 1000000
namespace U
open PySem PySem.Spec PyProof.Rows L2 DL
section
variable {Γ : List DSp} {xm : Nat → Nat → Option Bool} {ds : List D} {M : Mem} {Q : QD} {E : XD} {F : Fm} {v : Va} {md : Md} {x : Rat} {W : WD} {s : Int} {p : Addr} {o : MO}
def φ_law_fraction : DSp := fun l M Q _ => match l with
  | [.ref p] => Dw p M ∧ ∀ (x : Rat) o, x.num.natAbs ≤ 5000 → x.den ≤ 1000 → DrS o → Q (rt x) (M.put p o)
  | _ => False
theorem div_small {a b : Int} (hb : 0 < b) (h1 : a.natAbs ≤ 5000) (h2 : b ≤ 1000) : (Rat.divInt a b).num.natAbs ≤ 5000 ∧ (Rat.divInt a b).den ≤ 1000 := by
  constructor
  · rw [Rat.num_divInt]
    have := Int.natAbs_ediv_le_natAbs (b.sign * a) (b.gcd a : Int)
    rw [Int.natAbs_mul, Int.natAbs_sign_of_ne_zero (by omega)] at this
    omega
  · rw [Rat.den_divInt, if_neg (by omega)]
    have := Nat.div_le_self b.natAbs (b.gcd a)
    omega
theorem frac_9 {a b : Int} {a3 a4 a5 : Option D} (hb : 0 < b) (h1 : a.natAbs ≤ 5000) (h2 : b ≤ 1000) (h : ∀ x : Rat, x.num.natAbs ≤ 5000 → x.den ≤ 1000 → Q (rt x) M) :
    dSs Γ xm ir_law_fraction_k9 W (endS Q) [some (.ref p), some (.int a), some (.int b), a3, a4, a5] M := by
  unfold ir_law_fraction_k9
  by_cases h0 : a = 0
  · simp [h0]
    exact ends_rt (h 0 (by decide) (by decide))
  · simp [h0]
    unfold ir_law_fraction_k8
    simp
    unfold ir_law_fraction_k7
    simp [s_whl]
    refine euclid (st := fun x y => [some (.ref p), some (.int a), some (.int b), a3, some (.int x), some (.int y)]) (by split <;> omega) (by omega) ?_ ?_ ?_
    · intro x y QT hq
      unfold ir_law_fraction_c4
      simpa using hq
    · intro x y E' hy hn
      unfold ir_law_fraction_b5
      simp [hy]
      exact hn
    · have gp : 0 < Int.gcd a b := Int.gcd_pos_of_ne_zero_right a (by omega)
      have gl : Int.gcd a b ≤ b.natAbs := Nat.gcd_le_right _ (by omega)
      have ge : Int.gcd (if a < 0 then -a else a) b = Int.gcd a b := by split <;> simp
      rw [ge]
      unfold ir_law_fraction_k6
      have c1 : CDv a (Int.gcd a b : Nat) := cdv (by omega) (by
        have : ((Int.gcd a b : Nat) : Int).natAbs < 2 ^ 10 := by omega
        exact pow_mono this (by decide))
      have c2 : CDv b (Int.gcd a b : Nat) := cdv (by omega) (by
        have : ((Int.gcd a b : Nat) : Int).natAbs < 2 ^ 10 := by omega
        exact pow_mono this (by decide))
      simp [c1, c2]
      have := quo_divInt (a := a) (b := b) (g := (Int.gcd a b : Nat)) (by omega) (by rw [if_neg (by omega)])
      refine ends_rt ?_
      rw [this]
      obtain ⟨s1, s2⟩ := div_small hb h1 h2
      exact h _ s1 s2
theorem frac_10 {a b : Int} {a3 a4 a5 : Option D} (hb : 0 < b) (h1 : a.natAbs ≤ 5000) (h2 : b ≤ 1000) (h : ∀ x : Rat, x.num.natAbs ≤ 5000 → x.den ≤ 1000 → Q (rt x) M) :
    dSs Γ xm ir_law_fraction_k10 W (endS Q) [some (.ref p), some (.int a), some (.int b), a3, a4, a5] M := by
  unfold ir_law_fraction_k10
  simp
  refine ⟨⟨⟨by decide, by decide⟩, ⟨by decide, by decide⟩⟩, ?_⟩
  refine for_rng (fun i δ M' => M' = M ∧ ∃ a b a3, 0 < b ∧ a.natAbs ≤ 5000 ∧ b ≤ 1000 ∧ δ = [some (.ref p), some (.int a), some (.int b), a3, a4, a5]) 38 2 _ M ?_ ?_ ⟨rfl, a, b, a3, hb, h1, h2, rfl⟩
  · rintro i δ M' i1 i2 ⟨rfl, a, b, a3, hb, h1, h2, rfl⟩
    refine ⟨trivial, fun nx hnx => ?_⟩
    unfold ir_law_fraction_b3
    simp [s_whl]
    refine whl_inv (fun n δ M'' => M'' = M' ∧ ∃ a b, n = a.natAbs ∧ 0 < b ∧ a.natAbs ≤ 5000 ∧ b ≤ 1000 ∧ δ = [some (.ref p), some (.int a), some (.int b), some (.int i), a4, a5]) a.natAbs ⟨rfl, a, b, rfl, hb, h1, h2, rfl⟩ ?_
    rintro n δ M'' ⟨rfl, a, b, rfl, hb, h1, h2, rfl⟩ ny hny
    have i0 : i ≠ 0 := by omega
    unfold ir_law_fraction_c1
    simp [i0]
    have stop : nx [some (.ref p), some (.int a), some (.int b), some (.int i), a4, a5] M'' := hnx _ _ ⟨rfl, a, b, _, hb, h1, h2, rfl⟩
    by_cases m1 : a.fmod i = 0
    · by_cases m2 : b.fmod i = 0
      · by_cases m3 : a = 0
        · simp only [m3] at stop ⊢
          simp [m2]
          exact stop
        · simp [m1, m2, m3]
          unfold ir_law_fraction_b2
          have ci : ∀ j : Int, CDv j i := fun j => cdv i0 (by
            have : i.natAbs < 2 ^ 10 := by omega
            exact pow_mono this (by decide))
          simp [ci]
          have ea : a.fdiv i * i = a := by have := Int.mul_fdiv_add_fmod a i; rw [m1] at this; rw [Int.mul_comm]; omega
          have eb : b.fdiv i * i = b := by have := Int.mul_fdiv_add_fmod b i; rw [m2] at this; rw [Int.mul_comm]; omega
          have na : (a.fdiv i).natAbs * i.natAbs = a.natAbs := by rw [← Int.natAbs_mul, ea]
          have hq : (a.fdiv i).natAbs < a.natAbs := by
            have : (a.fdiv i).natAbs * 2 ≤ (a.fdiv i).natAbs * i.natAbs := Nat.mul_le_mul_left _ (by omega)
            omega
          have bq : 0 < b.fdiv i := by
            rcases Int.lt_trichotomy (b.fdiv i) 0 with z | z | z
            · have := Int.mul_neg_of_neg_of_pos z (show 0 < i by omega); omega
            · rw [z] at eb; omega
            · exact z
          have bl : b.fdiv i ≤ b := by
            have : b.fdiv i * 1 ≤ b.fdiv i * i := Int.mul_le_mul_of_nonneg_left (by omega) (by omega)
            omega
          exact hny _ _ _ hq ⟨rfl, _, _, rfl, bq, by omega, by omega, rfl⟩
      · simp [m1, m2]
        exact stop
    · simp [m1]
      exact stop
  · rintro δ M' ⟨rfl, a, b, a3, hb, h1, h2, rfl⟩
    refine ⟨trivial, ?_⟩
    exact frac_9 hb h1 h2 h
theorem b_law_fraction (g : Γ[23]? = some φ_law_draw) (h : φ_law_fraction ds M Q E) : dSs Γ xm ir_law_fraction (endW E) (endS Q) (startD 6 ds) M := by
  unfold φ_law_fraction at h
  split at h
  · rename_i p
    obtain ⟨hd, h⟩ := h
    obtain ⟨M0, o0, rfl, ho0⟩ := hd.form
    simp only [Mem.put_put] at h
    unfold ir_law_fraction
    simp [startD, g, -idx_lst]
    refine draw_m (by omega) (by omega) ho0 fun v1 o1 h10 h11 ho1 => ?_
    refine draw_m (by omega) (by omega) ho1 fun v2 o2 h20 h21 ho2 => ?_
    refine draw_m (by omega) (by omega) ho2 fun v3 o3 h30 h31 ho3 => ?_
    refine draw_m (by omega) (by omega) ho3 fun v4 o4 h40 h41 ho4 => idx_in h40 (by simpa using h41) fun d hd => ?_
    obtain ⟨a, rfl, ha0, ha1⟩ : ∃ a : Int, d = .int a ∧ 0 ≤ a ∧ a ≤ 5000 := by
      simp at hd
      rcases hd with rfl | rfl | rfl <;> exact ⟨_, rfl, by omega, by omega⟩
    unfold ir_law_fraction_k12
    simp [g, -idx_lst]
    refine draw_m (by omega) (by omega) ho4 fun v5 o5 h50 h51 ho5 => ?_
    simp only [bin_add]
    refine draw_m (by omega) (by omega) ho5 fun v6 o6 h60 h61 ho6 => idx_in h60 (by simpa using h61) fun d hd => ?_
    obtain ⟨b, rfl, hb0, hb1⟩ : ∃ a : Int, d = .int a ∧ 0 < a ∧ a ≤ 1000 := by
      simp at hd
      rcases hd with rfl | rfl | rfl | rfl | rfl | rfl | rfl | rfl | rfl <;> exact ⟨_, rfl, by omega, by omega⟩
    unfold ir_law_fraction_k11
    simp [g]
    refine draw_m (by omega) (by omega) ho6 fun v7 o7 h70 h71 ho7 => ?_
    by_cases h7 : v7 = 0
    · simp [h7]
      exact frac_10 hb0 (by omega) hb1 fun x s1 s2 => h x _ s1 s2 ho7
    · simp [h7]
      exact frac_10 hb0 (by omega) hb1 fun x s1 s2 => h x _ s1 s2 ho7
  · exact h.elim
end
end U
end
section
set_option maxHeartbeats 1000000
namespace U
open PySem PySem.Spec PyProof.Rows L2 DL
def Va.exN (F : Fm) : Va → Int
  | .num s m e => s * m * (F.B : Int) ^ e.toNat
  | _ => 0
def Va.exD (F : Fm) : Va → Int
  | .num _ _ e => (F.B : Int) ^ (-e).toNat
  | _ => 1
theorem pw_ab {x : Rat} (h : 0 < x) : ab x = x := by unfold ab; rw [if_neg (by grind)]
theorem ab_neg (x : Rat) : ab (-x) = ab x := by unfold ab; split <;> split <;> grind
section
variable {Γ : List DSp} {xm : Nat → Nat → Option Bool} {ds : List D} {M : Mem} {Q : QD} {E : XD} {F G : Fm} {v : Va} {md : Md} {x : Rat} {W : WD} {s : Int} {p : Addr} {o : MO}
theorem exD_pos (ok : F.ok) : 0 < v.exD F := by
  cases v <;> simp [Va.exD]
  exact Int.pow_pos (by have := ok.bp; omega)
theorem ex_val (ok : F.ok) : Rat.divInt (v.exN F) (v.exD F) = v.val F := by
  cases v with
  | num s m e =>
    show Rat.divInt (s * m * (F.B : Int) ^ e.toNat) ((F.B : Int) ^ (-e).toNat) = ((s * m : Int) : Rat) * pw F.B e
    rw [pw_div, ← int_div, Rat.divInt_mul_divInt, Int.one_mul]
  | _ => simp [Va.exN, Va.exD, Va.val]
theorem sgn_abs {s : Int} (h : sgn s) : s.natAbs = 1 := by rcases h with rfl | rfl <;> rfl
theorem ex_sz (ok : F.ok) (vo : v.ok F) : (v.exN F).natAbs < 2 ^ 1000 ∧ (v.exD F).natAbs < 2 ^ 1700 := by
  have h1 := ok.l1; have h2 := ok.h2; have lh := ok.lh
  cases v with
  | num s m e =>
    obtain ⟨hs, l1, l2, l3, l4, l5⟩ := vo
    have hm : (s * (m : Int)).natAbs < 2 ^ 241 := by
      rw [Int.natAbs_mul, sgn_abs hs]
      have := ok.top_lt
      omega
    exact ⟨mul_abs (m := 241) (n := 601) hm (bpow_lt ok.b_lt (by omega)) (by omega), bpow_lt ok.b_lt (by omega)⟩
  | _ => exact ⟨Nat.pow_pos (by decide), Nat.one_lt_two_pow (by decide)⟩
theorem pw_two {B : Nat} (hb : B ≤ 16) (hb2 : 0 < B) (n : Nat) : pw B n ≤ pw (2 : Nat) (4 * n : Nat) := by
  rw [pw_nat, pw_nat, Rat.intCast_le_intCast]
  have := Nat.pow_le_pow_left (show B ≤ 2 ^ 4 from hb) n
  rw [← Nat.pow_mul] at this
  omega
theorem val_ab {m : Nat} {s e : Int} (ok : F.ok) (hs : sgn s) (hm : 1 ≤ m) : ab (Va.val F (.num s m e)) = (m : Int) * pw F.B e := by
  have hp := pw_pos ok.bp e
  have h2 : (0 : Rat) < ((m : Int) : Rat) := Rat.intCast_pos.mpr (by omega)
  have h3 := Rat.mul_pos h2 hp
  show ab (((s * m : Int) : Rat) * pw F.B e) = _
  rcases hs with rfl | rfl
  · rw [Int.one_mul, pw_ab h3]
  · have : (((-1 : Int) * (m : Int) : Int) : Rat) * pw F.B e = -((m : Int) * pw F.B e) := by
      rw [Int.neg_one_mul, Rat.intCast_neg, Rat.neg_mul]
    rw [this, ab_neg, pw_ab h3]
theorem val_up (ok : F.ok) (vo : v.ok F) : ab (v.val F) < pw (2 : Nat) 900 := by
  have h1 := ok.l1; have h2 := ok.h2; have lh := ok.lh; have p2 := ok.p2
  cases v with
  | num s m e =>
    obtain ⟨hs, l1, l2, l3, l4, l5⟩ := vo
    rw [val_ab ok hs l3]
    have hp := pw_pos ok.bp e
    have k1 : ((m : Int) : Rat) * pw F.B e < pw F.B (F.p : Nat) * pw F.B e := by
      rw [Rat.mul_lt_mul_right hp, pw_nat, Rat.intCast_lt_intCast]
      have : F.top = F.B ^ F.p := rfl
      omega
    rw [← pw_add ok.bp] at k1
    have k2 : pw F.B ((F.p : Nat) + e) ≤ pw F.B (210 : Nat) := pw_le ok.b2 (by omega)
    have k3 := pw_two ok.b16 ok.bp 210
    have k4 : pw (2 : Nat) ((4 * 210 : Nat) : Int) ≤ pw (2 : Nat) 900 := pw_le (by decide) (by omega)
    grind
  | _ =>
    have : ab (0 : Rat) = 0 := by decide
    simp only [Va.val, this]
    exact pw_pos (by decide) _
theorem ex_lw (ok : F.ok) (vo : v.ok F) : Lw (v.exN F) (v.exD F) := by
  obtain ⟨h1, h2⟩ := ex_sz ok vo
  exact ⟨exD_pos ok, pow_mono h1 (by decide), pow_mono h2 (by decide), by rw [ex_val ok]; exact val_up ok vo⟩
/-- a value that can be reckoned with, of the format or not -/
def Va.wk : Va → Prop
  | .num s m e => sgn s ∧ m < 2 ^ 241 ∧ -400 ≤ e ∧ e ≤ 150
  | _ => True
theorem ok_wk (ok : F.ok) (vo : v.ok F) : v.wk := by
  have h1 := ok.l1; have h2 := ok.h2; have h3 := ok.top_lt
  cases v with
  | num s m e =>
    obtain ⟨hs, l1, l2, l3, l4, l5⟩ := vo
    exact ⟨hs, by omega, by omega, by omega⟩
  | _ => trivial
def φ_law_exact : DSp := fun l M Q E => match l with
  | [f, d] => onF (fun F => onV (fun v => v.wk ∧ v.fin = true ∧ Q (.tup [.int (v.exN F), .int (v.exD F)]) M) d) f
  | _ => False
@[simp] theorem law_exact_s : φ_law_exact [fmD F, vaD v] M Q E = (F.ok ∧ v.wk ∧ v.fin = true ∧ Q (.tup [.int (v.exN F), .int (v.exD F)]) M) := by simp [φ_law_exact]
theorem b_law_exact (g : Γ[61]? = some φ_law_raise) (h : φ_law_exact ds M Q E) : dSs Γ xm ir_law_exact (endW E) (endS Q) (startD 3 ds) M := by
  unfold φ_law_exact at h
  split at h
  case h_2 => exact h.elim
  obtain ⟨F, rfl, ok, v, rfl, vo, hf, h⟩ := h
  unfold ir_law_exact
  have h1 := ok.l1; have h2 := ok.h2; have b16 := ok.b16
  cases v with
  | nan => cases hf
  | inf s => cases hf
  | zero s =>
    simp [startD, Va.kind]
    exact ends_rt h
  | num s m e =>
    obtain ⟨hs, l0, l1, l2⟩ := vo
    have mo : IntMulOk s m := small_mul (by rcases hs with rfl | rfl <;> decide)
    have i1 : ∀ (M : Mem) (Q : QD), wIdx (vaD (.num s m e)) (.int 1) M Q = Q (.int s) M := fun _ _ => rfl
    have i2 : ∀ (M : Mem) (Q : QD), wIdx (vaD (.num s m e)) (.int 2) M Q = Q (.int m) M := fun _ _ => rfl
    have i3 : ∀ (M : Mem) (Q : QD), wIdx (vaD (.num s m e)) (.int 3) M Q = Q (.int e) M := fun _ _ => rfl
    have t1 : (if e < 0 then -e else 0) ≤ 100000 := by split <;> omega
    have t2 : (if 0 < e then e else 0) ≤ 100000 := by split <;> omega
    have t3 : -100000 ≤ (if e < 0 then -e else 0) := by split <;> omega
    have t4 : -100000 ≤ (if 0 < e then e else 0) := by split <;> omega
    have t5 : (if e < 0 then -e else 0).toNat = (-e).toNat := by split <;> omega
    have t6 : (if 0 < e then e else 0).toNat = e.toNat := by split <;> omega
    have hm : (s * (m : Int)).natAbs < 2 ^ 241 := by
      rw [Int.natAbs_mul, sgn_abs hs]
      omega
    have mo2 : IntMulOk (s * m) ((F.B : Int) ^ e.toNat) := mulOk (n := 601) hm (bpow_lt ok.b_lt (by omega)) (by omega)
    simp [startD, Va.kind, i1, i2, i3, g, mo, b16]
    simp only [t5, t6]
    exact ⟨t2, ⟨mo2, t1, ends_rt h, t3⟩, t4⟩
def Fm.into (F : Fm) (md : Md) (G : Fm) (v : Va) : Va × Fl := if v.isNum = true then F.rnd md (v.val G) 1 else (v, .none)
def φ_law_into : DSp := fun l M Q E => match l with
  | [f, md, g, d] => onF (fun F => onM (fun md => onF (fun G => onV (fun v => v.ok G ∧ Q (resD (F.into md G v)) M) d) g) md) f
  | _ => False
@[simp] theorem law_into_s : φ_law_into [fmD F, mdD md, fmD G, vaD v] M Q E = (F.ok ∧ G.ok ∧ v.ok G ∧ Q (resD (F.into md G v)) M) := by simp [φ_law_into]
theorem b_law_into (g1 : Γ[67]? = some φ_law_exact) (g2 : Γ[66]? = some φ_law_round) (h : φ_law_into ds M Q E) : dSs Γ xm ir_law_into (endW E) (endS Q) (startD 6 ds) M := by
  unfold φ_law_into at h
  split at h
  · obtain ⟨F, rfl, ok, md, rfl, G, rfl, okG, v, rfl, vo, h⟩ := h
    unfold ir_law_into
    unfold Fm.into at h
    cases v with
    | num s m e =>
      simp only [Va.isNum, if_true] at h
      simp [startD, Va.kind, g1, g2, ok, okG, ok_wk okG vo, ex_lw okG vo, Va.fin]
      rw [ex_val okG]
      exact ends_rt h
    | _ =>
      rw [if_neg (by simp [Va.isNum])] at h
      simp [startD, Va.kind]
      exact ends_rt h
  · exact h.elim
end
end U
end
section
set_option maxHeartbeats 1000000
namespace U
open PySem PySem.Spec PyProof.Rows L2 DL
/-! ### what rounding gives -/
section
variable {F G : Fm} {v : Va} {md : Md} {x : Rat} {s : Int}
theorem top_two (ok : F.ok) : 2 ≤ F.top := by have := ok.top_gt; have := ok.full_pos; omega
theorem far_ok (ok : F.ok) (hs : sgn s) : (F.far md s).ok F := by
  unfold Fm.far
  have := top_two ok; have := ok.top_gt; have := ok.lh
  split
  · exact hs
  · exact ⟨hs, by omega, by omega, by omega, by omega, .inl (by omega)⟩
theorem full_ok (ok : F.ok) (hs : sgn s) : Va.ok F (.num s F.full F.L) := ⟨hs, by omega, ok.lh, ok.full_pos, ok.top_gt, .inl (by omega)⟩
theorem mr_le (ok : F.ok) (hx : 0 < x) : F.mt x ≤ F.mr md s x ∧ F.mr md s x ≤ F.mt x + 1 := by unfold Fm.mr; split <;> omega
theorem put_ok (ok : F.ok) (hs : sgn s) (hx : 0 < x) : (F.put md s x).1.ok F := by
  have fp := ok.full_pos; have tg := ok.top_gt; have lh := ok.lh
  by_cases h1 : F.tiny = false ∧ F.nd x < F.p
  · rw [put_few ok h1.1 h1.2]
    unfold Fm.low
    show Va.ok F (if _ then _ else _)
    split
    · exact full_ok ok hs
    · exact hs
  · rw [put_all h1]
    obtain ⟨g1, g2, g3⟩ := Fm.expo_spec ok hx
    have m1 := Fm.mt_nn ok hx
    have m2 := Fm.mt_lt ok hx
    obtain ⟨m3, m4⟩ := mr_le (md := md) (s := s) ok hx
    split
    · unfold Fm.done
      split
      · exact far_ok ok hs
      · split
        · exact hs
        · show Va.ok F (.num s (F.full : Int).toNat _)
          rw [Int.toNat_natCast]
          exact ⟨hs, by omega, by omega, fp, tg, .inl (by omega)⟩
    · unfold Fm.done
      split
      · exact far_ok ok hs
      · split
        · exact hs
        · refine ⟨hs, by omega, by omega, by omega, by omega, ?_⟩
          by_cases h : F.full ≤ (F.mr md s x).toNat
          · exact .inl h
          · refine .inr ?_
            have : F.mt x < F.full := by omega
            have few := (Fm.mt_few ok hx).mp this
            exact ⟨by
              cases ht : F.tiny with
              | true => rfl
              | false => exact absurd ⟨ht, few⟩ h1, Fm.few_expo ok few⟩
theorem rnd_ok (ok : F.ok) (hs : sgn s) : (F.rnd md x s).1.ok F := by
  unfold Fm.rnd
  split
  · exact hs
  · rename_i h
    exact put_ok ok (sg_sgn x) (ab_pos h)
theorem rnd_nn : (F.rnd md x s).1 ≠ .nan := by
  unfold Fm.rnd
  split
  · simp
  · unfold Fm.put Fm.low Fm.done Fm.far
    (repeat' split) <;> simp
/-- numbers of a format stay -/
theorem hw_int {B : Nat} {x : Rat} {e : Int} {n : Int} (h : sc B x e = (n : Rat)) : (sc B x e).floor = n ∧ how (sc B x e) = 0 := by
  rw [h]
  refine ⟨Rat.floor_intCast _, ?_⟩
  unfold how
  rw [Rat.floor_intCast, Rat.num_intCast, Rat.den_intCast]
  simp
theorem sc_num (ok : F.ok) {m : Nat} {e : Int} : sc F.B ((m : Int) * pw F.B e) e = ((m : Int) : Rat) := (eq_scale ok.bp).mpr rfl
theorem num_pos (ok : F.ok) {m : Nat} {e : Int} (h : 1 ≤ m) : 0 < ((m : Int) : Rat) * pw F.B e := Rat.mul_pos (Rat.intCast_pos.mpr (by omega)) (pw_pos ok.bp e)
theorem num_expo (ok : F.ok) {m : Nat} {e : Int} (vo : Va.ok F (.num s m e)) : F.expo ((m : Int) * pw F.B e) = e := by
  obtain ⟨hs, l1, l2, l3, l4, l5⟩ := vo
  have p1 := ok.p1
  refine Fm.expo_uniq ok (num_pos ok l3) l1 ?_ ?_
  · have : ((F.p : Nat) : Int) + e = (F.p : Nat) + e := rfl
    rw [← sc_lt_pow ok.bp, sc_num ok, Rat.floor_intCast]
    have : F.top = F.B ^ F.p := rfl
    omega
  · rcases l5 with h | h
    · right
      have e1 : (F.p : Int) - 1 + e = ((F.p - 1 : Nat) : Int) + e := by omega
      rw [e1, ← pow_le_sc ok.bp, sc_num ok, Rat.floor_intCast]
      have : F.full = F.B ^ (F.p - 1) := rfl
      omega
    · exact .inl h.2
theorem put_num (ok : F.ok) {m : Nat} {e : Int} (vo : Va.ok F (.num s m e)) : F.put md s ((m : Int) * pw F.B e) = (.num s m e, .none) := by
  have he := num_expo ok vo
  obtain ⟨hs, l1, l2, l3, l4, l5⟩ := vo
  have hx := num_pos (e := e) ok l3
  obtain ⟨f1, f2⟩ := hw_int (sc_num (m := m) (e := e) ok)
  have hm : F.mt ((m : Int) * pw F.B e) = m := by unfold Fm.mt; rw [he]; exact f1
  have hh : F.hw ((m : Int) * pw F.B e) = 0 := by unfold Fm.hw; rw [he]; exact f2
  have hr : F.mr md s ((m : Int) * pw F.B e) = m := by
    unfold Fm.mr
    rw [hh, hm, if_neg]
    simp [Md.goes]
  rw [put_all]
  · rw [hr, if_neg (by omega), he, hh]
    unfold Fm.done
    rw [if_neg (by omega), if_neg (by omega), if_pos rfl]
    simp
  · rintro ⟨h1, h2⟩
    have := (Fm.mt_few ok hx).mpr h2
    rw [hm] at this
    rcases l5 with h | h
    · omega
    · rw [h1] at h; cases h.1
theorem val_num {m : Nat} {e : Int} : Va.val F (.num s m e) = ((s * m : Int) : Rat) * pw F.B e := rfl
theorem val_sg (ok : F.ok) {m : Nat} {e : Int} (hs : sgn s) (hm : 1 ≤ m) : sg (Va.val F (.num s m e)) = s := by
  have h1 := num_pos (e := e) ok hm
  rw [val_num]
  unfold sg
  rcases hs with rfl | rfl
  · rw [Int.one_mul, if_pos h1]
  · rw [if_neg]
    rw [Int.neg_one_mul, Rat.intCast_neg, Rat.neg_mul]
    grind
theorem val_ne (ok : F.ok) {m : Nat} {e : Int} (hs : sgn s) (hm : 1 ≤ m) : Va.val F (.num s m e) ≠ 0 := by
  intro h
  have := val_ab (e := e) ok hs hm
  have h1 := num_pos (e := e) ok hm
  rw [h] at this
  have z : ab (0 : Rat) = 0 := by decide
  rw [z] at this
  grind
theorem rnd_num (ok : F.ok) {m : Nat} {e s0 : Int} (vo : Va.ok F (.num s m e)) : F.rnd md (Va.val F (.num s m e)) s0 = (.num s m e, .none) := by
  have h := vo
  obtain ⟨hs, l1, l2, l3, l4, l5⟩ := h
  unfold Fm.rnd
  rw [if_neg (val_ne ok hs l3), val_sg ok hs l3, val_ab ok hs l3]
  exact put_num ok vo
/-- nothing is left -/
theorem hw_zero (hx : F.hw x = 0) (bp : 0 < F.B) : x = (F.mt x : Rat) * pw F.B (F.expo x) := by
  have : sc F.B x (F.expo x) = (F.mt x : Rat) := by
    unfold Fm.hw how at hx
    unfold Fm.mt
    split at hx
    · rename_i h
      generalize sc F.B x (F.expo x) = y at *
      have h1 : y.num = y.floor * y.den := by omega
      have h2 : y = Rat.divInt y.num y.den := (Rat.num_divInt_den y).symm
      have hd := y.den_pos
      generalize hf : y.floor = f at *
      rw [h2, h1]
      rw [← int_div, Rat.divInt_eq_divInt_iff (by omega) (by decide)]
      omega
    · (repeat' split at hx) <;> omega
  exact (eq_scale bp).mp this
theorem hw_cases : F.hw x = 0 ∨ F.hw x = 1 ∨ F.hw x = 2 ∨ F.hw x = 3 := by
  unfold Fm.hw how
  (repeat' split) <;> simp
theorem put_none (ok : F.ok) (hs : sgn s) (hx : 0 < x) (h : (F.put md s x).2 = .none) : ∃ m e, F.put md s x = (.num s m e, .none) ∧ Va.ok F (.num s m e) ∧ x = ((m : Int) : Rat) * pw F.B e := by
  have po := put_ok (md := md) ok hs hx
  by_cases h1 : F.tiny = false ∧ F.nd x < F.p
  · rw [put_few ok h1.1 h1.2] at h
    unfold Fm.low at h
    cases h
  · have mn := Fm.mt_nn ok hx
    have ml := Fm.mt_lt ok hx
    rw [put_all h1] at h po ⊢
    have main : F.hw x = 0 := by
      unfold Fm.done at h
      rcases hw_cases (F := F) (x := x) with h0 | h0 | h0 | h0
      · exact h0
      all_goals
        rw [h0] at h
        exfalso
        (repeat' split at h) <;> simp_all
    have hr : F.mr md s x = F.mt x := by unfold Fm.mr; rw [main]; simp [Md.goes]
    rw [hr, if_neg (by omega)] at h po ⊢
    have xe := hw_zero main ok.bp
    unfold Fm.done at h po ⊢
    by_cases hH : F.H < F.expo x
    · rw [if_pos hH] at h; cases h
    · rw [if_neg hH] at h po ⊢
      by_cases h0 : F.mt x = 0
      · rw [if_pos h0] at h; cases h
      · rw [if_neg h0, if_pos main] at po ⊢
        refine ⟨_, _, rfl, po, ?_⟩
        have : (((F.mt x).toNat : Nat) : Int) = F.mt x := by omega
        rw [this]
        exact xe
end
end U
end
section
set_option maxHeartbeats 1000000
namespace U
open PySem PySem.Spec PyProof.Rows L2 DL
/-! ### equality of values and of fractions -/
theorem va_tup (v : Va) : ∃ xs, vaD v = .tup xs := by cases v <;> exact ⟨_, rfl⟩
theorem dat_va (v : Va) : datB 20 (vaD v) = true := by
  cases v <;> (simp only [vaD]; unfold datB; simp [datB]) <;> (try (first | (refine ⟨by decide +kernel, ?_⟩; simp [datB]) | decide +kernel))
theorem dat_rt (x : Rat) : datB 20 (rt x) = true := by
  unfold rt
  simp [datB]
section
variable {M : Mem} {k : Bool → Prop}
theorem eq_va {u v : Va} (h : k (decide (u = v))) : wEq (vaD u) (vaD v) M k := by
  obtain ⟨xs, e⟩ := va_tup u
  have := dat_va u
  rw [e] at this ⊢
  refine eq_dat (b := decide (u = v)) this (dat_va v) ?_ h
  rw [← e]
  simp
theorem eq_rt {x y : Rat} (h : k (decide (x = y))) : wEq (rt x) (rt y) M k := by
  refine eq_dat (b := decide (x = y)) (dat_rt x) (dat_rt y) ?_ h
  show _ ↔ rt x = rt y
  simp
theorem in_va {v : Va} {ys : List Va} (h : k (decide (v ∈ ys))) : wIn (vaD v) (.tup (ys.map vaD)) M k := by
  obtain ⟨xs, e⟩ := va_tup v
  have := dat_va v
  rw [e] at this ⊢
  refine in_dat (b := decide (v ∈ ys)) (ys := ys.map vaD) rfl (by simp) this ?_ ?_ h
  · rw [List.all_map]
    exact List.all_eq_true.mpr fun u _ => dat_va u
  · rw [← e]
    simp
end
end U
end
section
set_option maxHeartbeats 1000000
namespace U
open PySem PySem.Spec PyProof.Rows L2 DL
/-! ### ranks -/
def Fm.fewI (F : Fm) : Int := if F.tiny = true then (F.full : Int) - 1 else 0
def Fm.w (F : Fm) : Int := (F.top : Int) - F.full
def Fm.pos (F : Fm) (m : Int) (e : Int) : Int := if m < F.full then m else F.fewI + (e - F.L) * F.w + m - F.full + 1
def Fm.rk (F : Fm) : Va → Int
  | .nan => 0
  | .zero _ => 0
  | .inf s => s * (F.many + 1)
  | .num s m e => s * F.pos m e
def Fm.atS (F : Fm) (s far : Int) : Va :=
  if far = 0 then .zero 1 else if far = F.many + 1 then .inf s else if far ≤ F.fewI then .num s far.toNat F.L
  else .num s (F.full + (far - F.fewI - 1).fmod F.w).toNat (F.L + (far - F.fewI - 1).fdiv F.w)
def Fm.atR (F : Fm) (k : Int) : Va := F.atS (if 0 ≤ k then 1 else -1) (if k < 0 then -k else k)
section
variable {Γ : List DSp} {xm : Nat → Nat → Option Bool} {ds : List D} {M : Mem} {Q : QD} {E : XD} {F G : Fm} {v : Va} {md : Md} {x : Rat} {W : WD} {s : Int}
theorem Fm.w_pos (ok : F.ok) : 0 < F.w := by have := ok.top_gt; unfold Fm.w; omega
theorem many_eq : F.many = (F.H - F.L + 1) * F.w + F.fewI := rfl
theorem few_nn (ok : F.ok) : 0 ≤ F.fewI := by have := ok.full_pos; unfold Fm.fewI; split <;> omega
theorem many_pos (ok : F.ok) : 0 < F.many := by
  have := few_nn ok
  have := ok.lh
  have := Int.mul_pos (show 0 < F.H - F.L + 1 by omega) (Fm.w_pos ok)
  rw [many_eq]; omega
theorem pos_bd (ok : F.ok) {m : Nat} {e : Int} (vo : Va.ok F (.num s m e)) : 1 ≤ F.pos m e ∧ F.pos m e ≤ F.many := by
  obtain ⟨hs, l1, l2, l3, l4, l5⟩ := vo
  have hw := Fm.w_pos ok
  have fn := few_nn ok
  have fp := ok.full_pos
  unfold Fm.pos
  split
  · rename_i h
    rcases l5 with z | z
    · omega
    · have : F.fewI = (F.full : Int) - 1 := by unfold Fm.fewI; rw [if_pos z.1]
      have := Int.mul_pos (show 0 < F.H - F.L + 1 by omega) hw
      rw [many_eq]; omega
  · have h1 : 0 ≤ (e - F.L) * F.w := Int.mul_nonneg (by omega) (by omega)
    have h2 : (e - F.L) * F.w ≤ (F.H - F.L) * F.w := Int.mul_le_mul_of_nonneg_right (by omega) (by omega)
    have h3 : (F.H - F.L + 1) * F.w = (F.H - F.L) * F.w + F.w := by rw [Int.add_mul, Int.one_mul]
    rw [many_eq, h3]
    have : F.w = (F.top : Int) - F.full := rfl
    omega
/-- what stands at a number's rank is it -/
theorem atS_pos (ok : F.ok) {m : Nat} {e : Int} (vo : Va.ok F (.num s m e)) : F.atS s (F.pos m e) = .num s m e := by
  obtain ⟨b1, b2⟩ := pos_bd ok vo
  obtain ⟨hs, l1, l2, l3, l4, l5⟩ := vo
  have hw := Fm.w_pos ok
  have fp := ok.full_pos
  unfold Fm.atS
  rw [if_neg (by omega), if_neg (by omega)]
  by_cases h : (m : Int) < F.full
  · have hp : F.pos m e = m := by unfold Fm.pos; rw [if_pos h]
    rcases l5 with z | z
    · omega
    · have : F.fewI = (F.full : Int) - 1 := by unfold Fm.fewI; rw [if_pos z.1]
      rw [hp, if_pos (by omega), z.2]
      simp
  · have hp : F.pos m e = F.fewI + (e - F.L) * F.w + m - F.full + 1 := by unfold Fm.pos; rw [if_neg h]
    have h1 : 0 ≤ (e - F.L) * F.w := Int.mul_nonneg (by omega) (by omega)
    rw [if_neg (by omega)]
    have hww : F.w = (F.top : Int) - F.full := rfl
    have e1 : F.pos m e - F.fewI - 1 = ((m : Int) - F.full) + (e - F.L) * F.w := by omega
    rw [e1]
    have d1 : (((m : Int) - F.full) + (e - F.L) * F.w).fdiv F.w = e - F.L := by
      rw [Int.fdiv_eq_ediv_of_nonneg _ (by omega), Int.add_mul_ediv_right _ _ (by omega), Int.ediv_eq_zero_of_lt (by omega) (by omega)]
      omega
    have d2 : (((m : Int) - F.full) + (e - F.L) * F.w).fmod F.w = m - F.full := by
      rw [Int.fmod_eq_emod_of_nonneg _ (by omega), Int.add_mul_emod_self_right, Int.emod_eq_of_lt (by omega) (by omega)]
    rw [d1, d2]
    congr 1
    · omega
    · omega
theorem atS_inf (ok : F.ok) : F.atS s (F.many + 1) = .inf s := by
  have := many_pos ok
  unfold Fm.atS
  rw [if_neg (by omega), if_pos rfl]
theorem rk_inf : F.rk (.inf s) = s * (F.many + 1) := rfl
theorem rk_num {m : Nat} {e : Int} : F.rk (.num s m e) = s * F.pos m e := rfl
theorem atR_p {k : Int} (h : 0 ≤ k) : F.atR k = F.atS 1 k := by unfold Fm.atR; rw [if_pos h, if_neg (by omega)]
theorem atR_n {k : Int} (h : 0 < k) : F.atR (-k) = F.atS (-1) k := by unfold Fm.atR; rw [if_neg (by omega), if_pos (by omega), Int.neg_neg]
theorem atR_rk (ok : F.ok) (vo : v.ok F) (hn : v ≠ .nan) (hz : ∀ s, v ≠ .zero s) : F.atR (F.rk v) = v := by
  have mp := many_pos ok
  cases v with
  | nan => exact absurd rfl hn
  | zero s => exact absurd rfl (hz s)
  | inf s =>
    rw [rk_inf]
    rcases vo with rfl | rfl
    · rw [Int.one_mul, atR_p (by omega), atS_inf ok]
    · rw [Int.neg_one_mul, atR_n (by omega), atS_inf ok]
  | num s m e =>
    obtain ⟨b1, b2⟩ := pos_bd ok vo
    rw [rk_num]
    have hs := vo.1
    rcases hs with rfl | rfl
    · rw [Int.one_mul, atR_p (by omega), atS_pos ok vo]
    · rw [Int.neg_one_mul, atR_n (by omega), atS_pos ok vo]
def φ_rank : DSp := fun l M Q E => onFV (fun F v => v ≠ .nan ∧ Q (.int (F.rk v)) M) l M Q E
@[simp] theorem rank_s : φ_rank [fmD F, vaD v] M Q E = (F.ok ∧ v.ok F ∧ v ≠ .nan ∧ Q (.int (F.rk v)) M) := onFV_s
theorem sgn_mul (hs : sgn s) (j : Int) : IntMulOk s j := small_mul (by rcases hs with rfl | rfl <;> decide)
theorem few_ite {k : Int → Prop} : (if F.tiny = true then k ((F.full : Int) - 1) else k 0) = k F.fewI := by unfold Fm.fewI; split <;> rfl
theorem b_rank (g1 : Γ[38]? = some φ_look_at_value) (g2 : Γ[33]? = some φ_how_many) (g3 : Γ[31]? = some φ_full) (g4 : Γ[32]? = some φ_above) (h : φ_rank ds M Q E) : dSs Γ xm ir_rank (endW E) (endS Q) (startD 4 ds) M := by
  replace h := onFV_i h
  obtain ⟨F, v, rfl, ok, vo, hn, h⟩ := h
  have l1 := ok.l1; have l2 := ok.lh; have l3 := ok.h2
  unfold ir_rank
  cases v with
  | nan => exact absurd rfl hn
  | zero s =>
    simp [startD, g1, ok, vo]
    unfold ir_rank_k7
    simp [Va.kind]
    unfold ir_rank_k6
    simp [Va.kind]
    exact ends_rt h
  | inf s =>
    have hs : sgn s := vo
    have mo : IntMulOk s (F.many + 1) := sgn_mul hs _
    have i1 : ∀ (M : Mem) (Q : QD), wIdx (vaD (.inf s)) (.int 1) M Q = Q (.int s) M := fun _ _ => rfl
    simp [startD, g1, ok, vo]
    unfold ir_rank_k7
    simp [Va.kind]
    unfold ir_rank_k6
    simp [Va.kind]
    unfold ir_rank_k5
    simp [Va.kind, i1, g2, ok, mo]
    exact ends_rt h
  | num s m e =>
    obtain ⟨hs, q1, q2, q3, q4, q5⟩ := id vo
    have mo : ∀ j : Int, IntMulOk s j := sgn_mul hs
    have mo2 : IntMulOk (e - F.L) (F.top - F.full) := small_mul (by omega)
    have i1 : ∀ (M : Mem) (Q : QD), wIdx (vaD (.num s m e)) (.int 1) M Q = Q (.int s) M := fun _ _ => rfl
    have i2 : ∀ (M : Mem) (Q : QD), wIdx (vaD (.num s m e)) (.int 2) M Q = Q (.int m) M := fun _ _ => rfl
    have i3 : ∀ (M : Mem) (Q : QD), wIdx (vaD (.num s m e)) (.int 3) M Q = Q (.int e) M := fun _ _ => rfl
    simp [startD, g1, ok, vo]
    unfold ir_rank_k7
    simp [Va.kind]
    unfold ir_rank_k6
    simp [Va.kind]
    unfold ir_rank_k5
    simp [Va.kind]
    rw [rk_num] at h
    have fin : ∀ f : Int, f = F.fewI → dSs Γ xm ir_rank_k3 (endW E) (endS Q) [some (fmD F), some (vaD (.num s m e)), some (.int f), none] M := by
      rintro f rfl
      unfold ir_rank_k3
      unfold Fm.pos at h
      by_cases hm : (m : Int) < F.full
      · rw [if_pos hm] at h
        simp [g3, ok, i1, i2, hm, mo]
        exact ends_rt h
      · rw [if_neg hm] at h
        have ew : F.w = (F.top : Int) - F.full := rfl
        rw [ew] at h
        simp [g3, ok, i1, i2, hm, mo]
        unfold ir_rank_k2
        simp [g3, g4, ok]
        unfold ir_rank_k1
        simp -implicitDefEqProofs [g3, ok, i1, i2, i3, mo, mo2]
        exact ends_rt h
    unfold ir_rank_k4
    by_cases ht : F.tiny = true
    · simp [g3, ok, ht]
      exact fin _ (by unfold Fm.fewI; rw [if_pos ht])
    · have ht' : F.tiny = false := by simpa using ht
      simp [g3, ok, ht']
      exact fin _ (by unfold Fm.fewI; rw [if_neg ht])
def φ_at_rank : DSp := fun l M Q _ => match l with
  | [f, .int k] => onF (fun F => (if k < 0 then -k else k) ≤ F.many + 1 ∧ Q (vaD (F.atR k)) M) f
  | _ => False
@[simp] theorem at_rank_s {k : Int} : φ_at_rank [fmD F, .int k] M Q E = (F.ok ∧ (if k < 0 then -k else k) ≤ F.many + 1 ∧ Q (vaD (F.atR k)) M) := onF_fm
theorem at_1 {a0 : Option D} {far : Int} (g1 : Γ[31]? = some φ_full) (g2 : Γ[32]? = some φ_above) (g4 : Γ[33]? = some φ_how_many) (ok : F.ok) (h0 : 0 ≤ far) (hf : far ≤ F.many + 1) (h : Q (vaD (F.atS s far)) M) :
    dSs Γ xm ir_at_rank_k6 W (endS Q) [some (fmD F), a0, some (.int s), some (.int far), none, none] M := by
  have hw := Fm.w_pos ok
  have fn := few_nn ok
  have l1 := ok.l1; have l2 := ok.lh; have l3 := ok.h2; have tl := ok.top_lt; have tg := ok.top_gt
  unfold Fm.atS at h
  unfold ir_at_rank_k6
  by_cases c0 : far = 0
  · rw [if_pos c0] at h
    simp [c0]
    exact ends_rt h
  · rw [if_neg c0] at h
    simp [c0]
    unfold ir_at_rank_k5
    by_cases c1 : far = F.many + 1
    · rw [if_pos c1] at h
      simp [c1, g4, ok]
      exact ends_rt h
    · rw [if_neg c1] at h
      simp [c1, g4, ok]
      have fin : ∀ f : Int, f = F.fewI → dSs Γ xm ir_at_rank_k3 W (endS Q) [some (fmD F), a0, some (.int s), some (.int far), some (.int f), none] M := by
        rintro f rfl
        unfold ir_at_rank_k3
        by_cases c2 : far ≤ F.fewI
        · rw [if_pos c2] at h
          simp [c2]
          have e : ((far.toNat : Nat) : Int) = far := by omega
          refine ends_rt ?_
          unfold vaD at h
          simp only [e] at h
          exact h
        · rw [if_neg c2] at h
          simp [c2]
          unfold ir_at_rank_k2
          simp [g1, g2, ok]
          unfold ir_at_rank_k1
          have e1 : (F.top : Int) - F.full = F.w := rfl
          have c3 : CDv (far - F.fewI - 1) F.w := cdv (by omega) (by
            have : F.w.natAbs < 2 ^ 241 := by omega
            exact pow_mono this (by decide))
          have n0 : F.w ≠ 0 := by omega
          simp [g1, ok, e1, c3, n0]
          have m0 := Int.fmod_nonneg_of_pos (far - F.fewI - 1) hw
          have e : (((F.full + (far - F.fewI - 1).fmod F.w).toNat : Nat) : Int) = F.full + (far - F.fewI - 1).fmod F.w := by omega
          refine ends_rt ?_
          unfold vaD at h
          simp only [e] at h
          exact h
      unfold ir_at_rank_k4
      by_cases ht : F.tiny = true
      · simp [g1, ok, ht]
        exact fin _ (by unfold Fm.fewI; rw [if_pos ht])
      · have ht' : F.tiny = false := by simpa using ht
        simp [g1, ok, ht']
        exact fin _ (by unfold Fm.fewI; rw [if_neg ht])
theorem b_at_rank (g0 : Γ[0]? = some φ_is_whole) (g1 : Γ[31]? = some φ_full) (g2 : Γ[32]? = some φ_above) (g3 : Γ[28]? = some φ_look_at_format) (g4 : Γ[33]? = some φ_how_many) (h : φ_at_rank ds M Q E) : dSs Γ xm ir_at_rank (endW E) (endS Q) (startD 6 ds) M := by
  unfold φ_at_rank at h
  split at h
  · rename_i f k
    obtain ⟨F, rfl, ok, hk, h⟩ := h
    unfold ir_at_rank
    simp [startD, g3, ok]
    unfold ir_at_rank_k8
    have hk' : ¬ F.many + 1 < (if k < 0 then -k else k) := by omega
    simp [g0, g4, ok, hk']
    unfold ir_at_rank_k7
    have hn : 0 ≤ (if k < 0 then -k else k) := by split <;> omega
    unfold Fm.atR at h
    by_cases c : 0 ≤ k
    · rw [if_pos c] at h
      simp [c]
      exact at_1 g1 g2 g4 ok hn hk h
    · rw [if_neg c] at h
      simp [c]
      exact at_1 g1 g2 g4 ok hn hk h
  · exact h.elim
end
end U
end
section
set_option maxHeartbeats 1000000
namespace U
open PySem PySem.Spec PyProof.Rows L2 DL
/-! ### one step further -/
def Fm.rs (F : Fm) : Va → Int
  | .nan => 0
  | .zero _ => 0
  | .inf _ => F.many + 1
  | .num _ m e => F.pos m e
/-- the next greater value -/
def Fm.up (F : Fm) (v : Va) : Va := if v ∈ [Va.nan, Va.inf 1] then v else if F.rk v + 1 = 0 then .zero (-1) else F.atR (F.rk v + 1)
/-- towards nought, away from it -/
structure Md.tz (md : Md) (s : Int) : Prop where
  goes : ∀ m h, md.goes s m h = false
  out : md.out s = false
  low : ∀ n, md.lowGoes s n = false
structure Md.aw (md : Md) (s : Int) : Prop where
  goes : ∀ m h, h ≠ 0 → md.goes s m h = true
  out : md.out s = true
  low : ∀ n, md.lowGoes s n = true
theorem tz_down : Md.down.tz 1 := ⟨fun m h => by simp [Md.goes], by simp [Md.out], fun n => by simp [Md.lowGoes]⟩
theorem tz_up : Md.up.tz (-1) := ⟨fun m h => by simp [Md.goes], by simp [Md.out], fun n => by simp [Md.lowGoes]⟩
theorem aw_up : Md.up.aw 1 := ⟨fun m h h0 => by simp [Md.goes, h0], by simp [Md.out], fun n => by simp [Md.lowGoes]⟩
theorem aw_down : Md.down.aw (-1) := ⟨fun m h h0 => by simp [Md.goes, h0], by simp [Md.out], fun n => by simp [Md.lowGoes]⟩
section
variable {Γ : List DSp} {xm : Nat → Nat → Option Bool} {ds : List D} {M : Mem} {Q : QD} {E : XD} {F G : Fm} {v : Va} {md ma : Md} {x : Rat} {W : WD} {s : Int}
theorem put_rk : F.rk (F.put md s x).1 = s * F.rs (F.put md s x).1 := by
  unfold Fm.put Fm.low Fm.done Fm.far
  (repeat' split) <;> simp [Fm.rk, Fm.rs]
theorem pos_succ (ok : F.ok) {m e : Int} (h0 : 0 ≤ m) (hf : m < F.full → F.tiny = true ∧ e = F.L) : F.pos (m + 1) e = F.pos m e + 1 := by
  unfold Fm.pos
  by_cases h1 : m + 1 < F.full
  · rw [if_pos h1, if_pos (by omega)]
  · rw [if_neg h1]
    by_cases h2 : m < F.full
    · rw [if_pos h2]
      obtain ⟨ht, he⟩ := hf h2
      have : F.fewI = (F.full : Int) - 1 := by unfold Fm.fewI; rw [if_pos ht]
      rw [he, this]
      have : F.L - F.L = 0 := by omega
      rw [this, Int.zero_mul]
      omega
    · rw [if_neg h2]; omega
theorem pos_next (ok : F.ok) (e : Int) : F.pos F.full (e + 1) = F.pos ((F.top : Int) - 1) e + 1 := by
  have tg := ok.top_gt
  unfold Fm.pos
  rw [if_neg (by omega), if_neg (by omega)]
  have : (e + 1 - F.L) * F.w = (e - F.L) * F.w + F.w := by
    have : e + 1 - F.L = (e - F.L) + 1 := by omega
    rw [this, Int.add_mul, Int.one_mul]
  rw [this]
  have : F.w = (F.top : Int) - F.full := rfl
  omega
theorem pos_last (ok : F.ok) : F.pos ((F.top : Int) - 1) F.H = F.many := by
  have tg := ok.top_gt
  unfold Fm.pos
  rw [if_neg (by omega), many_eq]
  have : (F.H - F.L + 1) * F.w = (F.H - F.L) * F.w + F.w := by rw [Int.add_mul, Int.one_mul]
  rw [this]
  have : F.w = (F.top : Int) - F.full := rfl
  omega
theorem pos_zero (ok : F.ok) : F.pos 0 F.L = 0 := by
  have := ok.full_pos
  unfold Fm.pos
  rw [if_pos (by omega)]
theorem pos_full (ok : F.ok) (ht : F.tiny = false) : F.pos F.full F.L = 1 := by
  unfold Fm.pos
  rw [if_neg (by omega)]
  have : F.fewI = 0 := by unfold Fm.fewI; rw [ht]; simp
  have h2 : F.L - F.L = 0 := by omega
  rw [this, h2, Int.zero_mul]
  omega
theorem rs_step (hz : md.tz s) (ha : ma.aw s) (ok : F.ok) (hs : sgn s) (hx : 0 < x) (hi : (F.put md s x).2 ≠ .none) : F.rs (F.put ma s x).1 = F.rs (F.put md s x).1 + 1 := by
  have tg := ok.top_gt
  by_cases h1 : F.tiny = false ∧ F.nd x < F.p
  · rw [put_few ok h1.1 h1.2, put_few ok h1.1 h1.2]
    unfold Fm.low
    rw [hz.low, ha.low]
    show F.pos F.full F.L = 0 + 1
    rw [pos_full ok h1.1]; rfl
  · rw [put_all h1] at hi
    rw [put_all h1, put_all h1]
    obtain ⟨g1, g2, g3⟩ := Fm.expo_spec ok hx
    have mn := Fm.mt_nn ok hx
    have ml := Fm.mt_lt ok hx
    have mz : F.mr md s x = F.mt x := by unfold Fm.mr; rw [hz.goes]; rfl
    have ne : ¬ F.mt x = F.top := by omega
    rw [mz, if_neg ne] at hi
    rw [mz, if_neg ne]
    have fs : F.rs (F.far md s) = F.many := by
      unfold Fm.far
      rw [hz.out]
      show F.pos ((F.top - 1 : Nat) : Int) F.H = _
      have : ((F.top - 1 : Nat) : Int) = (F.top : Int) - 1 := by omega
      rw [this, pos_last ok]
    have fa : F.rs (F.far ma s) = F.many + 1 := by
      unfold Fm.far
      rw [ha.out]
      rfl
    by_cases hH : F.H < F.expo x
    · have d1 : ∀ (md : Md) n h m e, F.expo x ≤ e → F.done md s n h m e = (F.far md s, .over) := fun md n h m e he => by unfold Fm.done; rw [if_pos (by omega)]
      rw [d1 md _ _ _ _ (Int.le_refl _), fs]
      split
      · rw [d1 ma _ _ _ _ (by omega), fa]
      · rw [d1 ma _ _ _ _ (Int.le_refl _), fa]
    · have h0 : F.hw x ≠ 0 := fun z => by
        unfold Fm.done at hi
        rw [if_neg hH, z] at hi
        have xe := hw_zero z ok.bp
        by_cases hm : F.mt x = 0
        · rw [hm, Rat.intCast_zero, Rat.zero_mul] at xe
          rw [xe] at hx
          exact absurd hx (by decide)
        · rw [if_neg hm] at hi
          exact hi rfl
      have ma1 : F.mr ma s x = F.mt x + 1 := by unfold Fm.mr; rw [ha.goes _ _ h0]; rfl
      rw [ma1]
      have fewt : F.mt x < F.full → F.tiny = true ∧ F.expo x = F.L := fun z => by
        have few := (Fm.mt_few ok hx).mp z
        exact ⟨by
          cases ht : F.tiny with
          | true => rfl
          | false => exact absurd ⟨ht, few⟩ h1, Fm.few_expo ok few⟩
      have dz : F.rs (F.done md s (F.nd x) (F.hw x) (F.mt x) (F.expo x)).1 = F.pos (F.mt x) (F.expo x) := by
        unfold Fm.done
        rw [if_neg hH]
        by_cases hm : F.mt x = 0
        · rw [if_pos hm, hm, (fewt (by have := ok.full_pos; omega)).2, pos_zero ok]; rfl
        · rw [if_neg hm]
          show F.pos ((F.mt x).toNat : Int) _ = _
          have : ((F.mt x).toNat : Int) = F.mt x := by omega
          rw [this]
      rw [dz]
      split
      · rename_i ht
        have e1 : F.mt x = (F.top : Int) - 1 := by omega
        unfold Fm.done
        by_cases h2 : F.H < F.expo x + 1
        · rw [if_pos h2]
          have : F.expo x = F.H := by omega
          rw [fa, e1, this, pos_last ok]
        · rw [if_neg h2, if_neg (by have := ok.full_pos; omega)]
          show F.pos (((F.full : Int).toNat : Nat) : Int) _ = _
          rw [Int.toNat_natCast, pos_next ok, e1]
      · rename_i ht
        unfold Fm.done
        rw [if_neg hH, if_neg (by omega)]
        show F.pos ((F.mt x + 1).toNat : Int) _ = _
        have : ((F.mt x + 1).toNat : Int) = F.mt x + 1 := by omega
        rw [this, pos_succ ok mn fewt]
/-- what is no number of the format: flags by every mode -/
theorem put_exact_any (ok : F.ok) (hs : sgn s) (hx : 0 < x) (h : (F.put md s x).2 = .none) : (F.put ma s x) = F.put md s x := by
  obtain ⟨m, e, h1, h2, h3⟩ := put_none ok hs hx h
  rw [h1, h3, put_num ok h2]
theorem put_sgn : (F.put md s x).1 = .zero s ∨ (∃ m e, (F.put md s x).1 = .num s m e) ∨ (F.put md s x).1 = .inf s := by
  unfold Fm.put Fm.low Fm.done Fm.far
  (repeat' split) <;> simp
theorem rs_nn (ok : F.ok) (vo : v.ok F) : 0 ≤ F.rs v ∧ F.rs v ≤ F.many + 1 := by
  have := many_pos ok
  cases v with
  | num s m e =>
    obtain ⟨a, b⟩ := pos_bd ok vo
    show 0 ≤ F.pos m e ∧ F.pos m e ≤ _
    omega
  | inf s => show 0 ≤ F.many + 1 ∧ F.many + 1 ≤ _; omega
  | _ => show (0 : Int) ≤ 0 ∧ (0 : Int) ≤ _; omega
/-- the next value behind the one below -/
theorem up_pos (ok : F.ok) (hx : 0 < x) (hi : (F.put .down 1 x).2 ≠ .none) : F.up (F.put .down 1 x).1 = (F.put .up 1 x).1 := by
  have st := rs_step tz_down aw_up ok (.inl rfl) hx hi
  have o1 := put_ok (md := .down) ok (s := 1) (.inl rfl) hx
  have o2 := put_ok (md := .up) ok (s := 1) (.inl rfl) hx
  obtain ⟨n1, n2⟩ := rs_nn ok o1
  obtain ⟨n3, n4⟩ := rs_nn ok o2
  unfold Fm.up
  have hn : (F.put .down 1 x).1 ∉ [Va.nan, Va.inf 1] := by
    rcases put_sgn (F := F) (md := .down) (s := 1) (x := x) with h | ⟨m, e, h⟩ | h
    · rw [h]; simp
    · rw [h]; simp
    · rw [h] at st
      have : F.rs (.inf 1) = F.many + 1 := rfl
      omega
  rw [if_neg hn, put_rk, Int.one_mul, if_neg (by omega), ← st]
  have e := put_rk (F := F) (md := .up) (s := 1) (x := x)
  rw [Int.one_mul] at e
  rw [← e]
  have hp : 0 < F.rs (F.put .up 1 x).1 := by omega
  refine atR_rk ok o2 ?_ ?_
  · intro z; rw [z] at hp; exact absurd hp (by simp [Fm.rs])
  · intro s z; rw [z] at hp; exact absurd hp (by simp [Fm.rs])
theorem up_neg (ok : F.ok) (hx : 0 < x) (hi : (F.put .down (-1) x).2 ≠ .none) : F.up (F.put .down (-1) x).1 = (F.put .up (-1) x).1 := by
  have hi2 : (F.put .up (-1) x).2 ≠ .none := fun z => hi (by rw [put_exact_any (md := .up) (ma := .down) ok (.inr rfl) hx z]; exact z)
  have st := rs_step tz_up aw_down ok (.inr rfl) hx hi2
  have o1 := put_ok (md := .down) ok (s := -1) (.inr rfl) hx
  have o2 := put_ok (md := .up) ok (s := -1) (.inr rfl) hx
  obtain ⟨n1, n2⟩ := rs_nn ok o1
  obtain ⟨n3, n4⟩ := rs_nn ok o2
  unfold Fm.up
  have hn : (F.put .down (-1) x).1 ∉ [Va.nan, Va.inf 1] := by
    rcases put_sgn (F := F) (md := .down) (s := -1) (x := x) with h | ⟨m, e, h⟩ | h <;> rw [h] <;> simp
  rw [if_neg hn, put_rk, st]
  have e := put_rk (F := F) (md := .up) (s := -1) (x := x)
  have e2 : -1 * (F.rs (F.put .up (-1) x).1 + 1) + 1 = -1 * F.rs (F.put .up (-1) x).1 := by omega
  rw [e2]
  by_cases h0 : F.rs (F.put .up (-1) x).1 = 0
  · rw [h0, if_pos (by decide)]
    rcases put_sgn (F := F) (md := .up) (s := -1) (x := x) with h | ⟨m, e, h⟩ | h
    · exact h.symm
    · rw [h] at o2 h0
      obtain ⟨a, b⟩ := pos_bd ok o2
      have : F.rs (.num (-1) m e) = F.pos m e := rfl
      omega
    · rw [h] at h0
      have : F.rs (.inf (-1)) = F.many + 1 := rfl
      have := many_pos ok
      omega
  · rw [if_neg (by omega), ← e]
    refine atR_rk ok o2 ?_ ?_
    · intro z; rw [z] at h0; exact h0 rfl
    · intro s z; rw [z] at h0; exact h0 rfl
end
end U
end
section
set_option maxHeartbeats 1000000
namespace U
open PySem PySem.Spec PyProof.Rows L2 DL
section
variable {M : Mem} {k k' : Bool → Prop}
theorem eq_two {xs : List D} {y : D} (h : wEq (.tup xs) y M k) (h' : wEq (.tup xs) y M k') : ∃ b, k b ∧ k' b := by
  have g : ∀ {k : Bool → Prop}, wEq (.tup xs) y M k → ∃ p q, pyD (rdM M (.tup xs)) = some p ∧ pyD (rdM M y) = some q ∧ k (PyData.eqv p q) := fun {k} h => by
    obtain ⟨p, q, a, b, _, _, c⟩ := (show ∃ p q, pyD (rdM M (.tup xs)) = some p ∧ pyD (rdM M y) = some q ∧ SeqAt.shaped p = true ∧ SeqAt.shaped q = true ∧ k (PyData.eqv p q) from by cases y <;> exact h)
    exact ⟨p, q, a, b, c⟩
  obtain ⟨p, q, a, b, c⟩ := g h
  obtain ⟨p', q', a', b', c'⟩ := g h'
  rw [a] at a'; cases a'
  rw [b] at b'; cases b'
  exact ⟨_, c, c'⟩
theorem in_two {xs ys : List D} (h : wIn (.tup xs) (.tup ys) M k) (h' : wIn (.tup xs) (.tup ys) M k') : ∃ b, k b ∧ k' b := by
  have g : ∀ {k : Bool → Prop}, wIn (.tup xs) (.tup ys) M k → ∃ p ps, pyD (rdM M (.tup xs)) = some p ∧ pyDs ys = some ps ∧ k (ps.any fun z => PyData.eqv z p) := fun {k} h => by
    obtain ⟨ds, e, h⟩ := h
    cases e
    rw [if_neg (by simp [flatD])] at h
    obtain ⟨p, ps, a, b, _, _, _, c⟩ := h
    exact ⟨p, ps, a, b, c⟩
  obtain ⟨p, q, a, b, c⟩ := g h
  obtain ⟨p', q', a', b', c'⟩ := g h'
  rw [a] at a'; cases a'
  rw [b] at b'; cases b'
  exact ⟨_, c, c'⟩
@[simp] theorem eq_vas {u v : Va} : wEq (vaD u) (vaD v) M k = k (decide (u = v)) := by
  refine propext ⟨fun h => ?_, eq_va⟩
  have h2 : wEq (vaD u) (vaD v) M fun b => b = decide (u = v) := eq_va rfl
  obtain ⟨xs, e⟩ := va_tup u
  rw [e] at h h2
  obtain ⟨b, h3, rfl⟩ := eq_two h h2
  exact h3
@[simp] theorem eq_rts {x y : Rat} : wEq (rt x) (rt y) M k = k (decide (x = y)) := by
  refine propext ⟨fun h => ?_, eq_rt⟩
  have h2 : wEq (rt x) (rt y) M fun b => b = decide (x = y) := eq_rt rfl
  obtain ⟨b, h3, rfl⟩ := eq_two h h2
  exact h3
theorem in_vas {v : Va} {ys : List Va} : wIn (vaD v) (.tup (ys.map vaD)) M k = k (decide (v ∈ ys)) := by
  refine propext ⟨fun h => ?_, in_va⟩
  have h2 : wIn (vaD v) (.tup (ys.map vaD)) M fun b => b = decide (v ∈ ys) := in_va rfl
  obtain ⟨xs, e⟩ := va_tup v
  rw [e] at h h2
  obtain ⟨b, h3, rfl⟩ := in_two h h2
  exact h3
end
section
variable {Γ : List DSp} {xm : Nat → Nat → Option Bool} {ds : List D} {M : Mem} {Q : QD} {E : XD} {F G : Fm} {v u : Va} {md : Md} {x : Rat} {W : WD} {s : Int} {r : Va × Fl}
@[simp] theorem idx_res0 : wIdx (resD r) (.int 0) M Q = Q (vaD r.1) M := rfl
@[simp] theorem idx_res1 : wIdx (resD r) (.int 1) M Q = Q (flD r.2) M := rfl
@[simp] theorem sq_res : sqM M (resD r) = some [vaD r.1, flD r.2] := rfl
theorem fl_inj {a b : Fl} : flD a = flD b ↔ a = b := by
  have n1 : ("under" : Str) ≠ "over" := by decide +kernel
  constructor
  · intro h
    cases a <;> cases b <;> simp [flD] at h ⊢
    · exact n1 h
    · exact n1 h.symm
  · rintro rfl; rfl
theorem res_inj {a b : Va × Fl} : resD a = resD b ↔ a = b := by
  constructor
  · intro h
    simp [resD, fl_inj] at h
    exact Prod.ext h.1 h.2
  · rintro rfl; rfl
@[simp] theorem res_injs {a b : Va × Fl} : (resD a = resD b) = (a = b) := propext res_inj
@[simp] theorem okD_va {k : Nat} : okD (k + 1) (vaD v) = true := by cases v <;> simp [vaD]
@[simp] theorem okD_fl {k : Nat} {f : Fl} : okD (k + 1) (flD f) = true := by cases f <;> simp [flD]
@[simp] theorem okD_res {k : Nat} : okD (k + 2) (resD r) = true := by simp [resD]
theorem rk_bd (ok : F.ok) (vo : v.ok F) : -(F.many + 1) ≤ F.rk v ∧ F.rk v ≤ F.many + 1 ∧ (F.rk v = F.many + 1 → v = .inf 1) := by
  have := many_pos ok
  cases v with
  | num s m e =>
    obtain ⟨a, b⟩ := pos_bd ok vo
    rw [rk_num]
    rcases vo.1 with rfl | rfl
    · rw [Int.one_mul]; exact ⟨by omega, by omega, fun h => by omega⟩
    · rw [Int.neg_one_mul]; exact ⟨by omega, by omega, fun h => by omega⟩
  | inf s =>
    rw [rk_inf]
    rcases vo with rfl | rfl
    · exact ⟨by omega, by omega, fun _ => rfl⟩
    · exact ⟨by omega, by omega, fun h => by omega⟩
  | _ => exact ⟨by show _ ≤ (0 : Int); omega, by show (0 : Int) ≤ _; omega, fun h => by have : (0 : Int) = F.many + 1 := h; omega⟩
def φ_next_up : DSp := fun l M Q E => onFV (fun F v => Q (vaD (F.up v)) M) l M Q E
@[simp] theorem next_up_s : φ_next_up [fmD F, vaD v] M Q E = (F.ok ∧ v.ok F ∧ Q (vaD (F.up v)) M) := onFV_s
theorem b_next_up (g1 : Γ[38]? = some φ_look_at_value) (g2 : Γ[40]? = some φ_rank) (g3 : Γ[41]? = some φ_at_rank) (h : φ_next_up ds M Q E) : dSs Γ xm ir_next_up (endW E) (endS Q) (startD 3 ds) M := by
  replace h := onFV_i h
  obtain ⟨F, v, rfl, ok, vo, h⟩ := h
  unfold ir_next_up
  have inn : ∀ (M : Mem) (k : Bool → Prop), wIn (vaD v) (.tup [.tup [.str "nan"], .tup [.str "inf", .int 1]]) M k = k (decide (v ∈ [Va.nan, Va.inf 1])) := fun M k => in_vas (ys := [Va.nan, Va.inf 1])
  unfold Fm.up at h
  by_cases hv : v ∈ [Va.nan, Va.inf 1]
  · rw [if_pos hv] at h
    simp only [List.mem_cons, List.not_mem_nil, or_false] at hv
    simp [startD, g1, ok, vo, inn, hv]
    exact ends_rt h
  · rw [if_neg hv] at h
    simp only [List.mem_cons, List.not_mem_nil, or_false, not_or] at hv
    obtain ⟨b1, b2, b3⟩ := rk_bd ok vo
    have hb : (if F.rk v + 1 < 0 then -(F.rk v + 1) else F.rk v + 1) ≤ F.many + 1 := by
      have : F.rk v ≠ F.many + 1 := fun z => hv.2 (b3 z)
      split <;> omega
    simp [startD, g1, g2, g3, ok, vo, inn, hv]
    by_cases h0 : F.rk v + 1 = 0
    · rw [if_pos h0] at h
      simp [h0]
      exact ends_rt h
    · rw [if_neg h0] at h
      simp [h0, hb]
      exact ends_rt h
def φ_rounded3 : DSp := fun l M Q E => match l with
  | [f, md, d] => φ_rounded [f, md, d, .int 1] M Q E
  | _ => False
@[simp] theorem rounded3_s : φ_rounded3 [fmD F, mdD md, rt x] M Q E = (F.ok ∧ Nm (ab x) ∧ Q (resD (F.rnd md x 1)) M) := rounded_s (E := E)
def Fm.lo (F : Fm) (x : Rat) : Va := (F.rnd .down x 1).1
def Fm.hi (F : Fm) (x : Rat) : Va := if (F.lo x).fin = true ∧ (F.lo x).val F = x then F.lo x else F.up (F.lo x)
def φ_neighbours : DSp := fun l M Q _ => match l with
  | [f, d] => onF (fun F => onR (fun x => Nm (ab x) ∧ Q (.tup [vaD (F.lo x), vaD (F.hi x)]) M) d) f
  | _ => False
@[simp] theorem neighbours_s : φ_neighbours [fmD F, rt x] M Q E = (F.ok ∧ Nm (ab x) ∧ Q (.tup [vaD (F.lo x), vaD (F.hi x)]) M) := by simp [φ_neighbours]
theorem lo_ok (ok : F.ok) : (F.lo x).ok F := rnd_ok ok (.inl rfl)
theorem in_fin {k : Bool → Prop} : wIn (.str v.kind) (.tup [.str "num", .str "zero"]) M k = k v.fin := by
  rw [in_tup rfl rfl]
  have e : (eqF (.str "num") (.str v.kind) || eqF (.str "zero") (.str v.kind)) = v.fin := by cases v <;> (simp [Va.kind, Va.fin]; decide +kernel)
  simp only [List.any_cons, List.any_nil, Bool.or_false]
  rw [e]
theorem b_neighbours (g1 : Γ[51]? = some φ_rounded3) (g2 : Γ[39]? = some φ_exact) (g3 : Γ[42]? = some φ_next_up) (h : φ_neighbours ds M Q E) : dSs Γ xm ir_neighbours (endW E) (endS Q) (startD 4 ds) M := by
  unfold φ_neighbours at h
  split at h
  · obtain ⟨F, rfl, ok, x, rfl, nm, h⟩ := h
    have md : mdD .down = .str "down" := rfl
    have lo := lo_ok (x := x) ok
    unfold ir_neighbours
    have g1' := @rounded3_s M Q E F .down x
    simp only [startD, e_call, a_cons, a_nil, e_var, e_cst]
    simp [g1]
    rw [← md]
    simp [ok, nm, in_fin]
    have el : (F.rnd .down x 1).1 = F.lo x := rfl
    simp only [el]
    have fin : ∀ d, d = vaD (F.hi x) → (endS Q).rt (.tup [vaD (F.lo x), d]) M := by
      rintro d rfl
      exact ends_rt h
    by_cases hf : (F.lo x).fin = true
    · simp [hf, g2, exact_s hf, ok, lo]
      by_cases hv : (F.lo x).val F = x
      · simp [hv]
        exact fin _ (by unfold Fm.hi; rw [if_pos ⟨hf, hv⟩])
      · simp [hv, g3, ok, lo]
        exact fin _ (by unfold Fm.hi; rw [if_neg (fun z => hv z.2)])
    · have hf' : (F.lo x).fin = false := by simpa using hf
      simp [hf', g3, ok, lo]
      exact fin _ (by unfold Fm.hi; rw [if_neg (fun z => hf z.1)])
  · exact h.elim
end
end U
end
section
set_option maxHeartbeats 1000000
namespace U
open PySem PySem.Spec PyProof.Rows L2 DL
def Va.isInf : Va → Bool
  | .inf _ => true
  | _ => false
section
variable {Γ : List DSp} {xm : Nat → Nat → Option Bool} {ds : List D} {M : Mem} {Q : QD} {E : XD} {F G : Fm} {v u : Va} {md : Md} {x : Rat} {W : WD} {s : Int} {r : Va × Fl}
theorem rnd_pos (h : 0 < x) : F.rnd md x s = F.put md 1 x := by
  unfold Fm.rnd sg
  rw [if_neg (fun z => by rw [z] at h; exact absurd h (by decide)), if_pos h, pw_ab h]
theorem rnd_neg (h : x < 0) : F.rnd md x s = F.put md (-1) (-x) := by
  unfold Fm.rnd sg ab
  rw [if_neg (fun z => by rw [z] at h; exact absurd h (by decide)), if_neg (by grind), if_pos h]
theorem rnd_zero : F.rnd md 0 s = (.zero s, .none) := by unfold Fm.rnd; rw [if_pos rfl]
theorem tri (x : Rat) : x < 0 ∨ x = 0 ∨ 0 < x := by
  by_cases h : x < 0
  · exact .inl h
  · by_cases h2 : x = 0
    · exact .inr (.inl h2)
    · exact .inr (.inr (by grind))
/-- without flags: the number itself -/
theorem rnd_none (ok : F.ok) (hs : sgn s) (h : (F.rnd md x s).2 = .none) : (F.rnd md x s).1.fin = true ∧ (F.rnd md x s).1.val F = x := by
  rcases tri x with hx | hx | hx
  · rw [rnd_neg hx] at h ⊢
    have hx' : 0 < -x := by grind
    obtain ⟨m, e, h1, h2, h3⟩ := put_none ok (.inr rfl) hx' h
    rw [h1]
    refine ⟨rfl, ?_⟩
    show ((-1 * (m : Int) : Int) : Rat) * pw F.B e = x
    rw [Int.neg_one_mul, Rat.intCast_neg, Rat.neg_mul, ← h3, Rat.neg_neg]
  · subst hx
    rw [rnd_zero]
    exact ⟨rfl, rfl⟩
  · rw [rnd_pos hx] at h ⊢
    obtain ⟨m, e, h1, h2, h3⟩ := put_none ok (.inl rfl) hx h
    rw [h1]
    refine ⟨rfl, ?_⟩
    show ((1 * (m : Int) : Int) : Rat) * pw F.B e = x
    rw [Int.one_mul, ← h3]
/-- .. and the other way round -/
theorem none_of (ok : F.ok) (vo : v.ok F) (hv : v.fin = true) (h : v.val F = x) : (F.rnd md x s).2 = .none := by
  subst h
  cases v with
  | num t m e => rw [rnd_num ok vo]
  | zero t =>
    have : Va.val F (.zero t) = 0 := rfl
    rw [this, rnd_zero]
  | _ => cases hv
theorem hi_eq (ok : F.ok) : F.hi x = (F.rnd .up x 1).1 := by
  unfold Fm.hi Fm.lo
  have vo := rnd_ok (md := .down) (x := x) (s := 1) ok (.inl rfl)
  by_cases h : (F.rnd .down x 1).2 = .none
  · rw [if_pos (rnd_none ok (.inl rfl) h)]
    rcases tri x with hx | hx | hx
    · rw [rnd_neg hx] at h ⊢
      rw [rnd_neg hx, put_exact_any (ma := .up) ok (.inr rfl) (by grind) h]
    · subst hx; rfl
    · rw [rnd_pos hx] at h ⊢
      rw [rnd_pos hx, put_exact_any (ma := .up) ok (.inl rfl) hx h]
  · rw [if_neg (fun z => h (none_of ok vo z.1 z.2))]
    rcases tri x with hx | hx | hx
    · rw [rnd_neg hx] at h ⊢
      rw [rnd_neg hx]
      exact up_neg ok (by grind) h
    · subst hx; exact absurd rfl h
    · rw [rnd_pos hx] at h ⊢
      rw [rnd_pos hx]
      exact up_pos ok hx h
theorem hi_ok (ok : F.ok) : (F.hi x).ok F := by rw [hi_eq ok]; exact rnd_ok ok (.inl rfl)
theorem val_sz (ok : F.ok) (vo : v.ok F) : Sz 1700 (v.val F) := by
  obtain ⟨h1, h2⟩ := ex_sz ok vo
  have := exD_pos (v := v) ok
  rw [← ex_val ok]
  exact divInt_sz (by omega) (pow_mono h1 (by decide)) h2
def Fm.tie (F : Fm) (x : Rat) : Bool := if F.lo x = F.hi x ∨ (F.lo x).isInf = true ∨ (F.hi x).isInf = true then false else decide (((F.lo x).val F + (F.hi x).val F) * Rat.divInt 1 2 = x)
def φ_is_tie : DSp := fun l M Q _ => match l with
  | [f, d] => onF (fun F => onR (fun x => Nm (ab x) ∧ Q (.bl (F.tie x)) M) d) f
  | _ => False
@[simp] theorem is_tie_s : φ_is_tie [fmD F, rt x] M Q E = (F.ok ∧ Nm (ab x) ∧ Q (.bl (F.tie x)) M) := by simp [φ_is_tie]
theorem in_inf {k : Bool → Prop} : wIn (.str "inf") (.tup [.str u.kind, .str v.kind]) M k = k (u.isInf || v.isInf) := by
  rw [in_tup rfl rfl]
  have e : ∀ v : Va, eqF (.str v.kind) (.str "inf") = v.isInf := fun v => by cases v <;> (simp [Va.kind, Va.isInf]; decide +kernel)
  simp only [List.any_cons, List.any_nil, Bool.or_false, e]
theorem fin_of (h1 : v ≠ .nan) (h2 : v.isInf = false) : v.fin = true := by
  cases v with
  | nan => exact absurd rfl h1
  | inf s => cases h2
  | _ => rfl
theorem b_is_tie (g1 : Γ[52]? = some φ_neighbours) (g2 : Γ[39]? = some φ_exact) (g3 : Γ[7]? = some φ_times) (h : φ_is_tie ds M Q E) : dSs Γ xm ir_is_tie (endW E) (endS Q) (startD 7 ds) M := by
  unfold φ_is_tie at h
  split at h
  · obtain ⟨F, rfl, ok, x, rfl, nm, h⟩ := h
    have lo := lo_ok (x := x) ok
    have ho := hi_ok (x := x) ok
    have ln : F.lo x ≠ .nan := rnd_nn
    have hn : F.hi x ≠ .nan := by rw [hi_eq ok]; exact rnd_nn
    unfold ir_is_tie
    simp [startD, g1, ok, nm]
    unfold ir_is_tie_k4
    unfold Fm.tie at h
    simp [in_inf]
    by_cases c : F.lo x = F.hi x ∨ (F.lo x).isInf = true ∨ (F.hi x).isInf = true
    · rw [if_pos c] at h
      by_cases c1 : F.lo x = F.hi x
      · simp [c1]; exact ends_rt h
      · rcases c with c | c | c
        · exact absurd c c1
        · simp [c1, c]; exact ends_rt h
        · simp [c1, c]; exact ends_rt h
    · rw [if_neg c] at h
      simp only [not_or, Bool.not_eq_true] at c
      obtain ⟨c1, c2, c3⟩ := c
      have f1 := fin_of ln c2
      have f2 := fin_of hn c3
      simp [c1, c2, c3]
      unfold ir_is_tie_k3
      simp [g2, exact_s f1, exact_s f2, ok, lo, ho]
      unfold ir_is_tie_k2
      have z1 := val_sz ok lo
      have z2 := val_sz ok ho
      obtain ⟨n1, n2⟩ := z1
      obtain ⟨n3, n4⟩ := z2
      generalize (F.lo x).val F = y at *
      generalize (F.hi x).val F = z at *
      have n2' : (y.den : Int).natAbs < 2 ^ 1700 := by simpa using n2
      have n4' : (z.den : Int).natAbs < 2 ^ 1700 := by simpa using n4
      have m1 : IntMulOk y.num z.den := mulOk n1 n4' (by decide)
      have m2 : IntMulOk z.num y.den := mulOk n3 n2' (by decide)
      have m3 : IntMulOk y.den z.den := mulOk n2' n4' (by decide)
      simp [g3, m1, m2, m3]
      have a1 : (y.num * z.den).natAbs < 2 ^ 3400 := mul_abs n1 n4' (by decide)
      have a2 : (z.num * y.den).natAbs < 2 ^ 3400 := mul_abs n3 n2' (by decide)
      have a3 : ((y.den : Int) * z.den).natAbs < 2 ^ 4000 := mul_abs n2' n4' (by decide)
      refine ⟨den_mul_ne y z, by decide, ?_, a3, Nat.one_lt_two_pow (by decide), ?_, ?_⟩
      · have : 2 ^ 3400 + 2 ^ 3400 ≤ 2 ^ 4000 := by decide +kernel
        omega
      · have : (2 : Nat) ^ 2 ≤ 2 ^ 4000 := Nat.pow_le_pow_right (by decide) (by decide)
        show (2 : Nat) < 2 ^ 4000
        omega
      · rw [add_div]
        simp
        unfold ir_is_tie_k1
        simp
        exact ends_rt h
  · exact h.elim
end
end U
end
section
set_option maxHeartbeats 1000000
namespace U
open PySem PySem.Spec PyProof.Rows L2 DL
section
variable {Γ : List DSp} {xm : Nat → Nat → Option Bool} {ds : List D} {M : Mem} {Q : QD} {E : XD} {F G : Fm} {v u : Va} {md : Md} {x : Rat} {W : WD} {s : Int} {r : Va × Fl}
def φ_look_at : DSp := fun l M Q _ => match l with
  | [f, md, .tup vs] => onF (fun F => onM (fun _ => ∃ us : List Va, vs = us.map vaD ∧ us.length ≤ 10 ∧ (∀ u ∈ us, u.ok F) ∧ Q .non M) md) f
  | _ => False
theorem look_at_s {us : List Va} (ok : F.ok) (hl : us.length ≤ 10) (h : ∀ u ∈ us, u.ok F) (q : Q .non M) : φ_look_at [fmD F, mdD md, .tup (us.map vaD)] M Q E :=
  ⟨F, rfl, ok, md, rfl, us, rfl, hl, h, q⟩
theorem b_look_at (g1 : Γ[30]? = some φ_look_at_mode) (g2 : Γ[38]? = some φ_look_at_value) (h : φ_look_at ds M Q E) : dSs Γ xm ir_look_at (endW E) (endS Q) (startD 4 ds) M := by
  unfold φ_look_at at h
  split at h
  · obtain ⟨F, rfl, ok, md, rfl, us, rfl, hl, hu, h⟩ := h
    unfold ir_look_at
    simp [startD, g1]
    intro _
    refine for_inv (fun ds δ M' => M' = M ∧ ∃ us' : List Va, ds = us'.map vaD ∧ (∀ u ∈ us', u.ok F) ∧ ∃ o, δ = [some (fmD F), some (mdD md), some (.tup (us.map vaD)), o]) ?_ ?_ _ _ _ ⟨rfl, us, rfl, hu, _, rfl⟩
    · rintro d ds δ M' ⟨rfl, us', e, hu', o, rfl⟩
      rcases us' with _ | ⟨u, us'⟩
      · simp at e
      · simp at e
        obtain ⟨rfl, rfl⟩ := e
        refine ⟨trivial, fun nx hn => ?_⟩
        unfold ir_look_at_b1
        simp [g2, ok, hu' u (by simp)]
        exact hn _ _ ⟨rfl, us', rfl, fun z hz => hu' z (by simp [hz]), _, rfl⟩
    · rintro δ M' ⟨rfl, us', e, hu', o, rfl⟩
      exact ⟨trivial, ends_nx h⟩
  · exact h.elim
def φ_turned_into : DSp := fun l M Q E => match l with
  | [g, f, md, d] => onF (fun F => onM (fun md => onF (fun G => onV (fun v => v.ok G ∧ Q (resD (F.into md G v)) M) d) g) md) f
  | _ => False
@[simp] theorem turned_into_s : φ_turned_into [fmD G, fmD F, mdD md, vaD v] M Q E = (F.ok ∧ G.ok ∧ v.ok G ∧ Q (resD (F.into md G v)) M) := by simp [φ_turned_into]
theorem val_nm (ok : F.ok) (vo : v.ok F) : Nm (ab (v.val F)) := by
  have := (ex_lw ok vo).nm
  rw [ex_val ok] at this
  exact this
theorem b_turned_into (g1 : Γ[54]? = some φ_look_at) (g2 : Γ[43]? = some φ_is_finite) (g3 : Γ[39]? = some φ_exact) (g4 : Γ[50]? = some φ_rounded) (h : φ_turned_into ds M Q E) : dSs Γ xm ir_turned_into (endW E) (endS Q) (startD 4 ds) M := by
  unfold φ_turned_into at h
  split at h
  · obtain ⟨F, rfl, ok, md, rfl, G, rfl, okG, v, rfl, vo, h⟩ := h
    unfold ir_turned_into
    simp [startD, g1]
    refine look_at_s (us := [v]) okG (by simp) (by simpa using vo) ?_
    have vn := val_nm okG vo
    unfold Fm.into at h
    cases v with
    | num s m e =>
      simp only [Va.isNum, if_true] at h
      have i1 : ∀ (M : Mem) (Q : QD), wIdx (vaD (.num s m e)) (.int 1) M Q = Q (.int s) M := fun _ _ => rfl
      have f1 : (Va.num s m e).fin = true := rfl
      simp [g2, g3, g4, f1, exact_s f1, ok, okG, vo, vn, i1]
      refine ends_rt ?_
      have hv := val_ne (e := e) okG vo.1 vo.2.2.2.1
      unfold Fm.rnd at h ⊢
      rw [if_neg hv] at h ⊢
      exact h
    | zero s =>
      simp only [Va.isNum] at h
      have i1 : ∀ (M : Mem) (Q : QD), wIdx (vaD (.zero s)) (.int 1) M Q = Q (.int s) M := fun _ _ => rfl
      have f1 : (Va.zero s).fin = true := rfl
      simp [g2, g3, g4, f1, exact_s f1, ok, okG, vo, vn, i1]
      refine ends_rt ?_
      have hv : Va.val G (.zero s) = 0 := rfl
      rw [hv, rnd_zero]
      exact h
    | nan =>
      simp only [Va.isNum] at h
      have f1 : (Va.nan).fin = false := rfl
      simp [g2, f1]
      exact ends_rt h
    | inf s =>
      simp only [Va.isNum] at h
      have f1 : (Va.inf s).fin = false := rfl
      simp [g2, f1]
      exact ends_rt h
  · exact h.elim
def Fm.twice (F G : Fm) (md : Md) (x : Rat) : Va × Fl := F.into md G (G.rnd md x 1).1
def φ_twice : DSp := fun l M Q E => match l with
  | [f, g, md, d] => onF (fun F => onF (fun G => onM (fun md => onR (fun x => Nm (ab x) ∧ Q (resD (F.twice G md x)) M) d) md) g) f
  | _ => False
@[simp] theorem twice_s : φ_twice [fmD F, fmD G, mdD md, rt x] M Q E = (F.ok ∧ G.ok ∧ Nm (ab x) ∧ Q (resD (F.twice G md x)) M) := by simp [φ_twice]
theorem b_twice (g1 : Γ[51]? = some φ_rounded3) (g2 : Γ[55]? = some φ_turned_into) (h : φ_twice ds M Q E) : dSs Γ xm ir_twice (endW E) (endS Q) (startD 5 ds) M := by
  unfold φ_twice at h
  split at h
  · obtain ⟨F, rfl, ok, G, rfl, okG, md, rfl, x, rfl, nm, h⟩ := h
    unfold ir_twice
    simp [startD, g1, g2, ok, okG, nm, rnd_ok (md := md) (x := x) (s := 1) okG (.inl rfl)]
    exact ends_rt h
  · exact h.elim
def φ_is_slip : DSp := fun l M Q E => match l with
  | [f, g, md, d] => onF (fun F => onF (fun G => onM (fun md => onR (fun x => Nm (ab x) ∧ Q (.bl (!decide ((F.twice G md x).1 = (F.rnd md x 1).1))) M) d) md) g) f
  | _ => False
@[simp] theorem is_slip_s : φ_is_slip [fmD F, fmD G, mdD md, rt x] M Q E = (F.ok ∧ G.ok ∧ Nm (ab x) ∧ Q (.bl (!decide ((F.twice G md x).1 = (F.rnd md x 1).1))) M) := by simp [φ_is_slip]
theorem b_is_slip (g1 : Γ[51]? = some φ_rounded3) (g2 : Γ[56]? = some φ_twice) (h : φ_is_slip ds M Q E) : dSs Γ xm ir_is_slip (endW E) (endS Q) (startD 4 ds) M := by
  unfold φ_is_slip at h
  split at h
  · obtain ⟨F, rfl, ok, G, rfl, okG, md, rfl, x, rfl, nm, h⟩ := h
    unfold ir_is_slip
    simp [startD, g1, g2, ok, okG, nm]
    exact ends_rt (by simpa using h)
  · exact h.elim
def Fm.slips (F G : Fm) (x : Rat) : Bool := if (G.rnd .even x 1).1.isNum = true then !decide ((G.rnd .even x 1).1.val G = x) && F.tie ((G.rnd .even x 1).1.val G) else false
def φ_slips_at : DSp := fun l M Q E => match l with
  | [f, g, d] => onF (fun F => onF (fun G => onR (fun x => Nm (ab x) ∧ Q (.bl (F.slips G x)) M) d) g) f
  | _ => False
@[simp] theorem slips_at_s : φ_slips_at [fmD F, fmD G, rt x] M Q E = (F.ok ∧ G.ok ∧ Nm (ab x) ∧ Q (.bl (F.slips G x)) M) := by simp [φ_slips_at]
theorem b_slips_at (g1 : Γ[51]? = some φ_rounded3) (g2 : Γ[43]? = some φ_is_finite) (g3 : Γ[39]? = some φ_exact) (g4 : Γ[53]? = some φ_is_tie) (h : φ_slips_at ds M Q E) : dSs Γ xm ir_slips_at (endW E) (endS Q) (startD 5 ds) M := by
  unfold φ_slips_at at h
  split at h
  · obtain ⟨F, rfl, ok, G, rfl, okG, x, rfl, nm, h⟩ := h
    have md : mdD .even = .str "even" := rfl
    have vo := rnd_ok (md := .even) (x := x) (s := 1) okG (.inl rfl)
    unfold ir_slips_at
    unfold Fm.slips at h
    simp only [startD, e_call, a_cons, a_nil, e_var, e_cst]
    simp [g1]
    rw [← md]
    simp [okG, nm]
    generalize (G.rnd .even x 1).1 = v at *
    have vn := val_nm okG vo
    cases v with
    | num s m e =>
      simp only [Va.isNum, if_true] at h
      have f1 : (Va.num s m e).fin = true := rfl
      simp [g2, f1, g3, exact_s f1, okG, vo, Va.kind]
      by_cases hv : Va.val G (.num s m e) = x
      · simp [hv] at h ⊢
        exact ends_rt h
      · simp [hv] at h ⊢
        simp [g4, ok, vn]
        exact ends_rt h
    | zero s =>
      simp only [Va.isNum] at h
      have f1 : (Va.zero s).fin = true := rfl
      simp [g2, f1, Va.kind]
      exact ends_rt h
    | nan =>
      simp only [Va.isNum] at h
      have f1 : (Va.nan).fin = false := rfl
      simp [g2, f1]
      exact ends_rt h
    | inf s =>
      simp only [Va.isNum] at h
      have f1 : (Va.inf s).fin = false := rfl
      simp [g2, f1]
      exact ends_rt h
  · exact h.elim
def Fm.byOdd (F G : Fm) (md : Md) (x : Rat) : Va × Fl := F.into md G (G.rnd .odd x 1).1
def φ_by_odd : DSp := fun l M Q E => match l with
  | [f, g, md, d] => onF (fun F => onF (fun G => onM (fun md => onR (fun x => Nm (ab x) ∧ Q (resD (F.byOdd G md x)) M) d) md) g) f
  | _ => False
@[simp] theorem by_odd_s : φ_by_odd [fmD F, fmD G, mdD md, rt x] M Q E = (F.ok ∧ G.ok ∧ Nm (ab x) ∧ Q (resD (F.byOdd G md x)) M) := by simp [φ_by_odd]
theorem b_by_odd (g1 : Γ[51]? = some φ_rounded3) (g2 : Γ[55]? = some φ_turned_into) (h : φ_by_odd ds M Q E) : dSs Γ xm ir_by_odd (endW E) (endS Q) (startD 4 ds) M := by
  unfold φ_by_odd at h
  split at h
  · obtain ⟨F, rfl, ok, G, rfl, okG, md, rfl, x, rfl, nm, h⟩ := h
    have mo : mdD .odd = .str "odd" := rfl
    unfold ir_by_odd
    simp only [startD]
    simp [g1]
    rw [← mo]
    simp [g2, ok, okG, nm, rnd_ok (md := .odd) (x := x) (s := 1) okG (.inl rfl)]
    exact ends_rt h
  · exact h.elim
end
end U
end
section
set_option maxHeartbeats 1000000
namespace U
open PySem PySem.Spec PyProof.Rows L2 DL
def Fm.fullPart (F G : Fm) : Bool := if (G.p : Int) < F.p ∨ G.H + G.p < F.H + F.p then false else decide ((if G.tiny = true then G.L else G.L + G.p - F.p) ≤ F.L)
def Fm.lowPart (F G : Fm) : Bool := decide (G.L ≤ F.L - ((G.p : Int) - 1)) && F.fullPart G
def Fm.part (F G : Fm) : Bool := if F.B = G.B then (if F.tiny = false then F.fullPart G else if G.tiny = true then decide (G.L ≤ F.L) && F.fullPart G else (decide ((F.p : Int) = 1) && F.fullPart G) || F.lowPart G) else false
def Fm.oddSafe (F G : Fm) : Bool := if F.B ≠ G.B ∨ F.B % 2 = 1 ∨ F.part G = false ∨ F.tiny = false ∨ G.tiny = false then false else
  decide ((F.p : Int) + 2 ≤ G.p) && (decide (G.L ≤ F.L - 2) && decide (F.H + F.p + 1 < G.H + G.p))
section
variable {Γ : List DSp} {xm : Nat → Nat → Option Bool} {ds : List D} {M : Mem} {Q : QD} {E : XD} {F G : Fm} {v u : Va} {md : Md} {x : Rat} {W : WD} {s : Int} {r : Va × Fl}
def φ_two (f : Fm → Fm → Bool) : DSp := fun l M Q _ => match l with
  | [a, b] => onF (fun F => onF (fun G => Q (.bl (f F G)) M) b) a
  | _ => False
@[simp] theorem two_s {f : Fm → Fm → Bool} : φ_two f [fmD F, fmD G] M Q E = (F.ok ∧ G.ok ∧ Q (.bl (f F G)) M) := by simp [φ_two]
theorem two_i {f : Fm → Fm → Bool} (h : φ_two f ds M Q E) : ∃ F G, ds = [fmD F, fmD G] ∧ F.ok ∧ G.ok ∧ Q (.bl (f F G)) M := by
  unfold φ_two at h
  split at h
  · obtain ⟨F, rfl, ok, G, rfl, ok2, h⟩ := h
    exact ⟨F, G, rfl, ok, ok2, h⟩
  · exact h.elim
def φ_is_full_part : DSp := φ_two Fm.fullPart
def φ_is_low_part : DSp := φ_two Fm.lowPart
def φ_is_part : DSp := φ_two Fm.part
def φ_odd_is_safe : DSp := φ_two Fm.oddSafe
@[simp] theorem full_part_s : φ_is_full_part [fmD F, fmD G] M Q E = (F.ok ∧ G.ok ∧ Q (.bl (F.fullPart G)) M) := two_s (E := E)
@[simp] theorem low_part_s : φ_is_low_part [fmD F, fmD G] M Q E = (F.ok ∧ G.ok ∧ Q (.bl (F.lowPart G)) M) := two_s (E := E)
@[simp] theorem is_part_s : φ_is_part [fmD F, fmD G] M Q E = (F.ok ∧ G.ok ∧ Q (.bl (F.part G)) M) := two_s (E := E)
@[simp] theorem odd_is_safe_s : φ_odd_is_safe [fmD F, fmD G] M Q E = (F.ok ∧ G.ok ∧ Q (.bl (F.oddSafe G)) M) := two_s (E := E)
theorem b_is_full_part (h : φ_is_full_part ds M Q E) : dSs Γ xm ir_is_full_part (endW E) (endS Q) (startD 3 ds) M := by
  obtain ⟨F, G, rfl, ok, okG, h⟩ := two_i h
  unfold ir_is_full_part
  unfold Fm.fullPart at h
  by_cases c1 : (G.p : Int) < F.p
  · rw [if_pos (.inl c1)] at h
    have c1' : G.p < F.p := by omega
    simp [startD, c1']
    exact ends_rt h
  · have c1' : ¬ G.p < F.p := by omega
    by_cases c2 : G.H + G.p < F.H + F.p
    · rw [if_pos (.inr c2)] at h
      simp [startD, c1', c2]
      exact ends_rt h
    · rw [if_neg (by omega)] at h
      cases ht : G.tiny with
      | true =>
        rw [ht] at h
        simp [startD, c1', c2, ht]
        exact ends_rt (by simpa using h)
      | false =>
        rw [ht] at h
        simp [startD, c1', c2, ht]
        exact ends_rt (by simpa using h)
theorem b_is_low_part (g : Γ[34]? = some φ_is_full_part) (h : φ_is_low_part ds M Q E) : dSs Γ xm ir_is_low_part (endW E) (endS Q) (startD 2 ds) M := by
  obtain ⟨F, G, rfl, ok, okG, h⟩ := two_i h
  unfold ir_is_low_part
  unfold Fm.lowPart at h
  by_cases c1 : G.L ≤ F.L - ((G.p : Int) - 1)
  · simp [c1] at h
    simp [startD, c1, g, ok, okG]
    exact ends_rt h
  · simp [c1] at h
    simp [startD, c1]
    exact ends_rt h
theorem b_is_part (g1 : Γ[28]? = some φ_look_at_format) (g2 : Γ[34]? = some φ_is_full_part) (g3 : Γ[35]? = some φ_is_low_part) (h : φ_is_part ds M Q E) : dSs Γ xm ir_is_part (endW E) (endS Q) (startD 2 ds) M := by
  obtain ⟨F, G, rfl, ok, okG, h⟩ := two_i h
  unfold ir_is_part
  unfold Fm.part at h
  by_cases hB : F.B = G.B
  · rw [if_pos hB] at h
    have hB' : (F.B : Int) = G.B := by omega
    cases ht : F.tiny with
    | false =>
      rw [ht] at h
      simp [startD, g1, g2, ok, okG, hB', ht]
      exact ends_rt (by simpa using h)
    | true =>
      rw [ht] at h
      cases hg : G.tiny with
      | true =>
        rw [hg] at h
        by_cases hl : G.L ≤ F.L
        · simp [hl] at h
          simp [startD, g1, g2, ok, okG, hB', ht, hg, hl]
          exact ends_rt h
        · simp [hl] at h
          simp [startD, g1, g2, ok, okG, hB', ht, hg, hl]
          exact ends_rt h
      | false =>
        rw [hg] at h
        by_cases hp : (F.p : Int) = 1
        · simp [hp] at h
          simp [startD, g1, g2, g3, ok, okG, hB', ht, hg, hp]
          by_cases hf : F.fullPart G = true
          · simp [hf] at h ⊢
            exact ends_rt h
          · simp [hf] at h ⊢
            exact ends_rt h
        · rw [decide_eq_false hp] at h
          simp at h
          simp [startD, g1, g2, g3, ok, okG, hB', ht, hg, hp]
          exact ends_rt h
  · rw [if_neg hB] at h
    have hB' : ¬ (F.B : Int) = G.B := by omega
    simp [startD, g1, ok, okG, hB']
    exact ends_rt h
theorem b_odd_is_safe (g1 : Γ[28]? = some φ_look_at_format) (g2 : Γ[36]? = some φ_is_part) (h : φ_odd_is_safe ds M Q E) : dSs Γ xm ir_odd_is_safe (endW E) (endS Q) (startD 2 ds) M := by
  obtain ⟨F, G, rfl, ok, okG, h⟩ := two_i h
  unfold ir_odd_is_safe
  unfold Fm.oddSafe at h
  by_cases hB : F.B = G.B
  · have e2 : ((F.B : Int).fmod 2 = 1) = (F.B % 2 = 1) := by rw [fmod2]; simp; omega
    have hB' : (F.B : Int) = G.B := by omega
    by_cases h2 : F.B % 2 = 1
    · rw [if_pos (.inr (.inl h2))] at h
      have h2' : (G.B : Int).fmod 2 = 1 := by rw [← hB', e2]; exact h2
      simp [startD, g1, ok, okG, hB', h2']
      exact ends_rt h
    · have h2' : ¬ (G.B : Int).fmod 2 = 1 := by rw [← hB', e2]; exact h2
      by_cases c : F.part G = false ∨ F.tiny = false ∨ G.tiny = false
      · rw [if_pos (.inr (.inr c))] at h
        by_cases c1 : F.part G = false
        · simp [startD, g1, g2, ok, okG, hB', h2', c1]; exact ends_rt h
        · rcases c with c | c | c
          · exact absurd c c1
          · simp [startD, g1, g2, ok, okG, hB', h2', c1, c]; exact ends_rt h
          · by_cases c3 : F.tiny = false
            · simp [startD, g1, g2, ok, okG, hB', h2', c1, c3]; exact ends_rt h
            · simp [startD, g1, g2, ok, okG, hB', h2', c1, c3, c]; exact ends_rt h
      · rw [if_neg (by simp only [not_or] at c ⊢; exact ⟨by simpa using hB, h2, c⟩)] at h
        simp only [not_or, Bool.not_eq_false] at c
        obtain ⟨c1, c2, c3⟩ := c
        simp [startD, g1, g2, ok, okG, hB', h2', c1, c2, c3]
        by_cases q1 : (F.p : Int) + 2 ≤ G.p
        · rw [decide_eq_true q1] at h
          by_cases q2 : G.L ≤ F.L - 2
          · simp [q1, q2] at h ⊢; exact ends_rt h
          · simp [q1, q2] at h ⊢; exact ends_rt h
        · rw [decide_eq_false q1] at h
          simp [q1] at h ⊢; exact ends_rt h
  · rw [if_pos (.inl hB)] at h
    have hB' : ¬ (F.B : Int) = G.B := by omega
    simp [startD, g1, ok, okG, hB']
    exact ends_rt h
end
end U
end
section
set_option maxHeartbeats 1000000
namespace U
open PySem PySem.Spec PyProof.Rows L2 DL
def exP (F : Fm) (v : Va) : D := .tup [.int (v.exN F), .int (v.exD F)]
section
variable {Γ : List DSp} {xm : Nat → Nat → Option Bool} {ds : List D} {M : Mem} {Q : QD} {E : XD} {F G : Fm} {v u : Va} {md : Md} {x : Rat} {W : WD} {s : Int} {r : Va × Fl}
/-- the rows of a format's numbers: those before a place -/
def NumsTo (F : Fm) (e1 m1 : Int) (rows : List D) : Prop := ∀ d, d ∈ rows ↔ ∃ (m : Nat) (e : Int), Va.ok F (.num 1 m e) ∧ (e < e1 ∨ (e = e1 ∧ (m : Int) < m1)) ∧ d = exP F (.num 1 m e)
def Nums (F : Fm) (rows : List D) : Prop := ∀ d, d ∈ rows ↔ ∃ (m : Nat) (e : Int), Va.ok F (.num 1 m e) ∧ d = exP F (.num 1 m e)
def φ_law_numbers : DSp := fun l M Q _ => match l with
  | [f] => onF (fun F => F.fw ∧ ∀ rows p, Nums F rows → rows.length ≤ 1000 → M p = none → Q (.ref p) (M.put p (.lst rows))) f
  | _ => False
theorem nums_inner {W : WD} {Dn : En} {p : Addr} {i lo : Int} {o9 : Option D} {rows : List D} (g2 : Γ[67]? = some φ_law_exact) (ok : F.ok) (h1 : F.L ≤ i) (h2 : i ≤ F.H) (hlo : lo = if F.tiny = true ∧ i = F.L then 1 else (F.full : Int)) (htop : F.top ≤ 100) (hr : NumsTo F i 0 rows) (hl : (rows.length : Int) ≤ (i - F.L) * 100) (hi : i - F.L ≤ 10)
    (h : ∀ rows' o9, NumsTo F (i + 1) 0 rows' → (rows'.length : Int) ≤ (i + 1 - F.L) * 100 → Dn.nx [some (fmD F), some (.int F.B), some (.int F.p), some (.int F.L), some (.int F.H), some (.bl F.tiny), some (.int F.full), some (.ref p), some (.int i), o9] (M.put p (.lst rows'))) :
    forGo (fun d E δ M => dSs Γ xm ir_law_numbers_b1 W E (δ.set 9 (some d)) M) (fun _ => True) Dn (rngD lo 1 ((F.top : Int) - lo).toNat) [some (fmD F), some (.int F.B), some (.int F.p), some (.int F.L), some (.int F.H), some (.bl F.tiny), some (.int F.full), some (.ref p), some (.int i), o9] (M.put p (.lst rows)) := by
  have fp := ok.full_pos; have tg := ok.top_gt
  have lo1 : 1 ≤ lo ∧ lo ≤ F.full := by rw [hlo]; split <;> omega
  have start : NumsTo F i lo rows := fun d => by
    rw [hr d]
    constructor
    · rintro ⟨m, e, vo, c, rfl⟩
      exact ⟨m, e, vo, by omega, rfl⟩
    · rintro ⟨m, e, vo, c, rfl⟩
      refine ⟨m, e, vo, ?_, rfl⟩
      rcases c with c | ⟨rfl, c⟩
      · exact .inl c
      · exfalso
        obtain ⟨hs, l1, l2, l3, l4, l5⟩ := vo
        rw [hlo] at c
        split at c
        · omega
        · rename_i hn
          rcases l5 with z | z
          · omega
          · exact hn z
  refine for_rng (fun j δ M' => ∃ rows' o, M' = M.put p (.lst rows') ∧ NumsTo F i j rows' ∧ (rows'.length : Int) ≤ (i - F.L) * 100 + (j - lo) ∧ δ = [some (fmD F), some (.int F.B), some (.int F.p), some (.int F.L), some (.int F.H), some (.bl F.tiny), some (.int F.full), some (.ref p), some (.int i), o]) _ _ _ _ ?_ ?_ ⟨rows, _, rfl, start, by omega, rfl⟩
  · rintro j δ M' j1 j2 ⟨rows', o, rfl, hr', hl', rfl⟩
    refine ⟨trivial, fun nx hnx => ?_⟩
    obtain ⟨n, rfl⟩ := Int.eq_ofNat_of_zero_le (show 0 ≤ j by omega)
    have vo : Va.ok F (.num 1 n i) := ⟨.inl rfl, h1, h2, by omega, by omega, by
      rw [hlo] at j1
      split at j1
      · rename_i c; exact .inr c
      · left; omega⟩
    unfold ir_law_numbers_b1
    have ev : D.tup [.str "num", .int 1, .int n, .int i] = vaD (.num 1 n i) := rfl
    simp
    rw [ev]
    simp [g2, ok, ok_wk ok vo, Va.fin]
    refine ⟨by rw [sizeLine_eq]; omega, hnx _ _ ⟨_, _, rfl, fun d => ?_, by simp; omega, rfl⟩⟩
    rw [List.mem_append, hr' d, List.mem_singleton]
    constructor
    · rintro (⟨m, e, vo, c, rfl⟩ | rfl)
      · exact ⟨m, e, vo, by omega, rfl⟩
      · exact ⟨n, i, vo, .inr ⟨rfl, by omega⟩, rfl⟩
    · rintro ⟨m, e, vo2, c, rfl⟩
      by_cases c2 : e < i ∨ (e = i ∧ (m : Int) < n)
      · exact .inl ⟨m, e, vo2, c2, rfl⟩
      · right
        have he : e = i := by omega
        have hm : m = n := by omega
        subst he; subst hm; rfl
  · rintro δ M' ⟨rows', o, rfl, hr', hl', rfl⟩
    refine ⟨trivial, h rows' o (fun d => ?_) (by omega)⟩
    rw [hr' d]
    constructor
    · rintro ⟨m, e, vo, c, rfl⟩
      exact ⟨m, e, vo, by omega, rfl⟩
    · rintro ⟨m, e, vo, c, rfl⟩
      have := vo.2.2.2.2.1
      exact ⟨m, e, vo, by omega, rfl⟩
theorem b_law_numbers (g1 : Γ[61]? = some φ_law_raise) (g2 : Γ[67]? = some φ_law_exact) (h : φ_law_numbers ds M Q E) : dSs Γ xm ir_law_numbers (endW E) (endS Q) (startD 10 ds) M := by
  unfold φ_law_numbers at h
  split at h
  · obtain ⟨F, rfl, ok, ⟨fw, top⟩, h⟩ := h
    have p1 := ok.p1; have b16 := ok.b16; have lh := ok.lh; have fp := ok.full_pos; have tg := ok.top_gt; have p2 := fw.p4; have w1 := fw.l1; have w2 := fw.h2; have w3 := fw.l2
    have te := ok.top_eq
    have e2 : ((F.p : Int) - 1).toNat = F.p - 1 := by omega
    have e4 : ((F.B : Nat) : Int) ^ (F.p - 1) = (F.full : Nat) := by unfold Fm.full; simp
    have s3 : (F.p : Int) - 1 ≤ 100000 := by omega
    have s4 : -100000 ≤ (F.p : Int) - 1 := by omega
    have mo : IntMulOk F.full F.B := small_mul (by omega)
    have e5 : (F.full : Int) * F.B = F.top := by rw [te]; simp
    unfold ir_law_numbers
    simp [startD]
    unfold ir_law_numbers_k5
    simp [g1, e2, e4, s3, s4, b16]
    intro p hp
    unfold ir_law_numbers_k4
    simp
    refine ⟨⟨⟨by omega, by omega⟩, ⟨by omega, by omega⟩⟩, ?_⟩
    refine for_rng (fun i δ M' => ∃ rows o8 o9, M' = M.put p (.lst rows) ∧ NumsTo F i 0 rows ∧ (rows.length : Int) ≤ (i - F.L) * 100 ∧ F.L ≤ i ∧ δ = [some (fmD F), some (.int F.B), some (.int F.p), some (.int F.L), some (.int F.H), some (.bl F.tiny), some (.int F.full), some (.ref p), o8, o9]) _ _ _ _ ?_ ?_ ⟨[], _, _, rfl, ?_, by simp, by omega, rfl⟩
    · rintro i δ M' i1 i2 ⟨rows, o8, o9, rfl, hr, hl, hi, rfl⟩
      refine ⟨trivial, fun nx hnx => ?_⟩
      unfold ir_law_numbers_b2
      have dr : i - F.L ≤ 4 := by omega
      have nxt : ∀ rows' o9, NumsTo F (i + 1) 0 rows' → (rows'.length : Int) ≤ (i + 1 - F.L) * 100 → nx [some (fmD F), some (.int F.B), some (.int F.p), some (.int F.L), some (.int F.H), some (.bl F.tiny), some (.int F.full), some (.ref p), some (.int i), o9] (M.put p (.lst rows')) := fun rows' o9 a b => hnx _ _ ⟨rows', _, _, rfl, a, b, by omega, rfl⟩
      have fin : ∀ lo : Int, (lo = if F.tiny = true ∧ i = F.L then 1 else (F.full : Int)) → (small62 lo ∧ small62 F.top) ∧ forGo (fun d E_1 δ M => dSs Γ xm ir_law_numbers_b1 (endW E) E_1 (δ.set 9 (some d)) M) (fun _ => True) { nx := nx, rt := (endS Q).rt, bk := fun δ' M' => dSs Γ xm ir_law_numbers_k3 (endW E) (endS Q) δ' M', ct := nx } (rngD lo 1 ((F.top : Int) - lo).toNat) [some (fmD F), some (.int F.B), some (.int F.p), some (.int F.L), some (.int F.H), some (.bl F.tiny), some (.int F.full), some (.ref p), some (.int i), o9] (M.put p (.lst rows)) := fun lo hlo =>
        ⟨⟨⟨by rw [hlo]; split <;> omega, by rw [hlo]; split <;> omega⟩, ⟨by omega, by omega⟩⟩, nums_inner g2 ok hi (by omega) hlo top hr hl (by omega) nxt⟩
      simp [mo, e5]
      by_cases ht : F.tiny = true
      · by_cases hi' : i = F.L
        · have := fin 1 (by rw [if_pos ⟨ht, hi'⟩])
          simpa [ht, hi'] using this
        · have := fin F.full (by rw [if_neg (fun z => hi' z.2)])
          simpa [ht, hi'] using this
      · have := fin F.full (by rw [if_neg (fun z => ht z.1)])
        simpa [ht] using this
    · rintro δ M' ⟨rows, o8, o9, rfl, hr, hl, hi, rfl⟩
      refine ⟨trivial, ?_⟩
      unfold ir_law_numbers_k3
      simp
      refine ends_rt (h rows p (fun d => ?_) (by omega) hp)
      rw [hr d]
      constructor
      · rintro ⟨m, e, vo, c, rfl⟩
        exact ⟨m, e, vo, rfl⟩
      · rintro ⟨m, e, vo, rfl⟩
        have := vo.2.2.1
        exact ⟨m, e, vo, .inl (by omega), rfl⟩
    · intro d
      constructor
      · intro h; cases h
      · rintro ⟨m, e, vo, c, rfl⟩
        have := vo.2.1
        omega
  · exact h.elim
end
end U
end
section
set_option maxHeartbeats 1000000
namespace U
open PySem PySem.Spec PyProof.Rows L2 DL
theorem dat_fl (f : Fl) : datB 20 (flD f) = true := by cases f <;> decide +kernel
theorem fl_tup (f : Fl) : ∃ xs, flD f = .tup xs := by cases f <;> exact ⟨_, rfl⟩
section
variable {Γ : List DSp} {xm : Nat → Nat → Option Bool} {ds : List D} {M : Mem} {Q : QD} {E : XD} {F G : Fm} {v u : Va} {md : Md} {x : Rat} {W : WD} {s : Int} {r : Va × Fl} {k : Bool → Prop}
theorem eq_fl {f g : Fl} (h : k (decide (f = g))) : wEq (flD f) (flD g) M k := by
  obtain ⟨xs, e⟩ := fl_tup f
  have := dat_fl f
  rw [e] at this ⊢
  refine eq_dat (b := decide (f = g)) this (dat_fl g) ?_ h
  rw [← e, fl_inj]
  simp
@[simp] theorem eq_fls {f g : Fl} : wEq (flD f) (flD g) M k = k (decide (f = g)) := by
  refine propext ⟨fun h => ?_, eq_fl⟩
  have h2 : wEq (flD f) (flD g) M fun b => b = decide (f = g) := eq_fl rfl
  obtain ⟨xs, e⟩ := fl_tup f
  rw [e] at h h2
  obtain ⟨b, h3, rfl⟩ := eq_two h h2
  exact h3
@[simp] theorem eq_fl0 {f : Fl} : wEq (flD f) (.tup []) M k = k (decide (f = .none)) := eq_fls (g := .none)
/-- whether every number above nought of a format is one of another -/
def Fm.subs (F G : Fm) : Prop := ∀ (m : Nat) (e : Int), Va.ok F (.num 1 m e) → (G.rnd .zero (Va.val F (.num 1 m e)) 1).2 = .none
open Classical in
noncomputable def Fm.subsB (F G : Fm) : Bool := decide (F.subs G)
def partG (G : Fm) : D → Option D
  | .tup [.int a, .int b] => if (G.rnd .zero (Rat.divInt a b) 1).2 = .none then none else some (.int 1)
  | _ => none
def φ_law_part : DSp := fun l M Q _ => match l with
  | [f, g] => onF (fun F => onF (fun G => F.fw ∧ Q (.bl (F.subsB G)) M) g) f
  | _ => False
@[simp] theorem law_part_s : φ_law_part [fmD F, fmD G] M Q E = (F.ok ∧ G.ok ∧ F.fw ∧ Q (.bl (F.subsB G)) M) := by simp [φ_law_part]
theorem b_law_part (g1 : Γ[77]? = some φ_law_numbers) (g2 : Γ[66]? = some φ_law_round) (h : φ_law_part ds M Q E) : dSs Γ xm ir_law_part (endW E) (endS Q) (startD 4 ds) M := by
  unfold φ_law_part at h
  split at h
  · obtain ⟨F, rfl, ok, G, rfl, okG, fw, h⟩ := h
    unfold ir_law_part
    simp [startD, g1]
    refine ⟨F, rfl, ok, fw, fun rows p hr hl hp => ?_⟩
    simp
    intro hlen p2 hp2
    have hne : p ≠ p2 := fun z => by rw [← z, Mem.put_same] at hp2; cases hp2
    refine lc_pure (g := partG G) hp2 (fun acc' => ?_) _ _ (fun d hd acc' kk hkk => ?_) (by simp; rw [sizeLine_eq]; omega) ?_
    · show (M.put p (.lst rows)).put p2 (.lst acc') p = _
      rw [Mem.put_ne hne, Mem.put_same]
    · obtain ⟨m, e, vo, rfl⟩ := (hr d).mp hd
      have lw := ex_lw ok vo
      unfold partG exP at hkk
      have mz : mdD .zero = .str "zero" := rfl
      unfold ir_law_part_t1 ir_law_part_e2
      unfold exP
      simp only [wipeD]
      simp [g2]
      rw [← mz]
      simp [okG, lw]
      by_cases hz : (G.rnd .zero (Rat.divInt (Va.exN F (.num 1 m e)) (Va.exD F (.num 1 m e))) 1).2 = .none
      · simp [hz] at hkk ⊢; exact hkk
      · simp [hz] at hkk ⊢; exact hkk
    · simp
      refine ⟨M, Mem.le_put hp, ?_⟩
      have e : (List.filterMap (partG G) rows = []) ↔ F.subs G := by
        rw [List.filterMap_eq_nil_iff]
        constructor
        · intro hh m e vo
          have := hh _ ((hr _).mpr ⟨m, e, vo, rfl⟩)
          unfold partG exP at this
          simp only at this
          rw [ex_val ok] at this
          split at this
          · assumption
          · cases this
        · intro hh d hd
          obtain ⟨m, e, vo, rfl⟩ := (hr d).mp hd
          unfold partG exP
          simp only
          rw [ex_val ok, if_pos (hh m e vo)]
      rw [List.filterMap_eq_nil_iff] at e
      have e2 : decide (∀ a : D, a ∈ rows → partG G a = none) = F.subsB G := by
        unfold Fm.subsB
        exact decide_eq_decide.mpr e
      rw [e2]; exact h
  · exact h.elim
end
end U
end
section
set_option maxHeartbeats 1000000
namespace U
open PySem PySem.Spec PyProof.Rows L2 DL
section
variable {Γ : List DSp} {xm : Nat → Nat → Option Bool} {ds : List D} {M : Mem} {Q : QD} {E : XD} {F G : Fm} {v u : Va} {md : Md} {x : Rat} {W : WD} {s : Int} {r : Va × Fl} {k : Bool → Prop}
theorem far_over (ok : F.ok) {n h m e : Int} (z : (F.done md s n h m e).2 = .over) : (F.done md s n h m e).1 = F.far md s := by
  unfold Fm.done at z ⊢
  split at z
  · rw [if_pos ‹_›]
  · split at z
    · cases z
    · (repeat' split at z) <;> cases z
theorem put_over (ok : F.ok) (h : (F.put md s x).2 = .over) : (F.put md s x).1 = F.far md s := by
  unfold Fm.put Fm.low at h ⊢
  split at h
  · cases h
  · rw [if_neg ‹_›]
    split at h
    · rw [if_pos ‹_›]; exact far_over ok h
    · rw [if_neg ‹_›]; exact far_over ok h
/-- beyond the greatest: one of both is inf -/
theorem over_inf (ok : F.ok) (hx : 0 < x) (hs : sgn s) (h : (F.put .down s x).2 = .over ∨ (F.put .up s x).2 = .over) : (F.put .down s x).1.isInf = true ∨ (F.put .up s x).1.isInf = true := by
  have key : ∀ {md ma : Md}, md.tz s → ma.aw s → (F.put md s x).2 = .over → (F.put ma s x).1.isInf = true := fun {md ma} hz ha h => by
    have hi : (F.put md s x).2 ≠ .none := by rw [h]; simp
    have st := rs_step hz ha ok hs hx hi
    have hf := put_over ok h
    unfold Fm.far at hf
    rw [hz.out] at hf
    rw [hf] at st
    have : F.rs (.num s (F.top - 1) F.H) = F.many := by
      show F.pos ((F.top - 1 : Nat) : Int) F.H = _
      have := top_two ok
      have e : ((F.top - 1 : Nat) : Int) = (F.top : Int) - 1 := by omega
      rw [e, pos_last ok]
    simp only [if_false, Bool.false_eq_true] at st
    rw [this] at st
    have o2 := put_ok (md := ma) ok hs hx
    cases hv : (F.put ma s x).1 with
    | inf t => rfl
    | num t m e =>
      rw [hv] at st o2
      have := (pos_bd ok o2).2
      have e : F.rs (.num t m e) = F.pos m e := rfl
      omega
    | zero t =>
      rw [hv] at st
      have e : F.rs (.zero t) = 0 := rfl
      have := many_pos ok
      omega
    | nan =>
      rw [hv] at st
      have e : F.rs .nan = 0 := rfl
      have := many_pos ok
      omega
  have key2 : ∀ {ma : Md}, ma.aw s → (F.put ma s x).2 = .over → (F.put ma s x).1.isInf = true := fun {ma} ha h => by
    rw [put_over ok h]
    unfold Fm.far
    rw [ha.out]; rfl
  rcases hs with rfl | rfl
  · rcases h with h | h
    · exact .inr (key tz_down aw_up h)
    · exact .inr (key2 aw_up h)
  · rcases h with h | h
    · exact .inl (key2 aw_down h)
    · exact .inl (key tz_up aw_down h)
theorem over_tie (ok : F.ok) (h : (F.rnd .down x 1).2 = .over ∨ (F.rnd .up x 1).2 = .over) : F.tie x = false := by
  have : (F.lo x).isInf = true ∨ (F.hi x).isInf = true := by
    rw [hi_eq ok]
    unfold Fm.lo
    rcases tri x with hx | hx | hx
    · rw [rnd_neg hx, rnd_neg hx] at *
      exact over_inf ok (by grind) (.inr rfl) h
    · subst hx
      rw [rnd_zero, rnd_zero] at h
      rcases h with h | h <;> cases h
    · rw [rnd_pos hx, rnd_pos hx] at *
      exact over_inf ok hx (.inl rfl) h
  unfold Fm.tie
  rw [if_pos (.inr this)]
theorem none_tie (ok : F.ok) (h : (F.rnd .down x 1).2 = .none) : F.lo x = F.hi x := by
  have z : (F.lo x).fin = true ∧ (F.lo x).val F = x := rnd_none ok (.inl rfl) h
  unfold Fm.hi
  rw [if_pos z]
theorem in_over {f : Fl} : wIn (.str "over") (flD f) M k = k (decide (f = .over)) := by
  cases f
  all_goals
    simp only [flD]
    rw [in_tup rfl rfl]
    congr 1
  all_goals decide +kernel
theorem kind_inf : (v.kind = "inf") = (v.isInf = true) := by
  cases v <;> simp [Va.kind, Va.isInf]
def φ_law_tie : DSp := fun l M Q _ => match l with
  | [f, .int a, .int b] => onF (fun F => Lw a b ∧ Q (.bl (F.tie (Rat.divInt a b))) M) f
  | _ => False
@[simp] theorem law_tie_s {a b : Int} : φ_law_tie [fmD F, .int a, .int b] M Q E = (F.ok ∧ Lw a b ∧ Q (.bl (F.tie (Rat.divInt a b))) M) := onF_fm
theorem b_law_tie (g1 : Γ[66]? = some φ_law_round) (g2 : Γ[67]? = some φ_law_exact) (h : φ_law_tie ds M Q E) : dSs Γ xm ir_law_tie (endW E) (endS Q) (startD 7 ds) M := by
  unfold φ_law_tie at h
  split at h
  · rename_i f a b
    obtain ⟨F, rfl, ok, lw, h⟩ := h
    have m1 : mdD .down = .str "down" := rfl
    have m2 : mdD .up = .str "up" := rfl
    have bz := lw.pos
    have lo := lo_ok (x := Rat.divInt a b) ok
    have ho := hi_ok (x := Rat.divInt a b) ok
    have ln : F.lo (Rat.divInt a b) ≠ .nan := rnd_nn
    have hn : F.hi (Rat.divInt a b) ≠ .nan := by rw [hi_eq ok]; exact rnd_nn
    have el : (F.rnd .down (Rat.divInt a b) 1).1 = F.lo (Rat.divInt a b) := rfl
    have eh : (F.rnd .up (Rat.divInt a b) 1).1 = F.hi (Rat.divInt a b) := (hi_eq ok).symm
    unfold ir_law_tie
    simp only [startD]
    simp [g1]
    rw [← m1, ← m2]
    simp [ok, lw]
    unfold ir_law_tie_k4
    simp [el, eh, kind_inf]
    by_cases c0 : (F.rnd .down (Rat.divInt a b) 1).2 = .none
    · have := none_tie ok c0
      have ht : F.tie (Rat.divInt a b) = false := by unfold Fm.tie; rw [if_pos (.inl this)]
      rw [ht] at h
      simp [c0]
      exact ends_rt h
    · simp [c0]
      by_cases c1 : (F.lo (Rat.divInt a b)).isInf = true
      · have ht : F.tie (Rat.divInt a b) = false := by unfold Fm.tie; rw [if_pos (.inr (.inl c1))]
        rw [ht] at h
        simp [c1]
        exact ends_rt h
      · by_cases c2 : (F.hi (Rat.divInt a b)).isInf = true
        · have ht : F.tie (Rat.divInt a b) = false := by unfold Fm.tie; rw [if_pos (.inr (.inr c2))]
          rw [ht] at h
          simp [c1, c2]
          exact ends_rt h
        · by_cases c3 : F.lo (Rat.divInt a b) = F.hi (Rat.divInt a b)
          · have ht : F.tie (Rat.divInt a b) = false := by unfold Fm.tie; rw [if_pos (.inl c3)]
            rw [ht] at h
            simp [c1, c2, c3]
            exact ends_rt h
          · simp [c1, c2, c3]
            unfold ir_law_tie_k3
            simp [in_over]
            by_cases c4 : (F.rnd .down (Rat.divInt a b) 1).2 = .over ∨ (F.rnd .up (Rat.divInt a b) 1).2 = .over
            · rw [over_tie ok c4] at h
              by_cases c5 : (F.rnd .down (Rat.divInt a b) 1).2 = .over
              · simp [c5]; exact ends_rt h
              · simp [c5, c4.resolve_left c5]; exact ends_rt h
            · simp only [not_or] at c4
              simp [c4.1, c4.2]
              have c1' : (F.lo (Rat.divInt a b)).isInf = false := by simpa using c1
              have c2' : (F.hi (Rat.divInt a b)).isInf = false := by simpa using c2
              have f1 := fin_of ln c1'
              have f2 := fin_of hn c2'
              unfold ir_law_tie_k2
              simp [el, eh, g2, ok, ok_wk ok lo, ok_wk ok ho, f1, f2]
              unfold Fm.tie at h
              rw [if_neg (by simp [c1, c2, c3])] at h
              have z1 := ex_val (v := F.lo (Rat.divInt a b)) ok
              have z2 := ex_val (v := F.hi (Rat.divInt a b)) ok
              obtain ⟨s1, s2⟩ := ex_sz ok lo
              obtain ⟨s3, s4⟩ := ex_sz ok ho
              have p1 := exD_pos (v := F.lo (Rat.divInt a b)) ok
              have p2 := exD_pos (v := F.hi (Rat.divInt a b)) ok
              rw [← z1, ← z2] at h
              generalize (F.lo (Rat.divInt a b)).exN F = n1 at *
              generalize (F.lo (Rat.divInt a b)).exD F = d1 at *
              generalize (F.hi (Rat.divInt a b)).exN F = n2 at *
              generalize (F.hi (Rat.divInt a b)).exD F = d2 at *
              have ee : ((Rat.divInt n1 d1 + Rat.divInt n2 d2) * Rat.divInt 1 2 = Rat.divInt a b) ↔ (n1 * d2 + n2 * d1) * b = 2 * a * d1 * d2 := by
                rw [Rat.divInt_add_divInt _ _ (by omega) (by omega), Rat.divInt_mul_divInt, Rat.divInt_eq_divInt_iff (Int.mul_ne_zero (Int.mul_ne_zero (by omega) (by omega)) (by decide)) (by omega)]
                constructor
                · intro h; grind
                · intro h; grind
              unfold ir_law_tie_k1
              have i1 : IntMulOk n1 d2 := mulOk s1 s4 (by decide)
              have i2 : IntMulOk n2 d1 := mulOk s3 s2 (by decide)
              have q1 : (n1 * d2).natAbs < 2 ^ 2700 := mul_abs s1 s4 (by decide)
              have q2 : (n2 * d1).natAbs < 2 ^ 2700 := mul_abs s3 s2 (by decide)
              have i3 : IntMulOk (n1 * d2 + n2 * d1) b := by
                refine mulOk (m := 2701) ?_ lw.bn (by decide)
                have : (2 : Nat) ^ 2701 = 2 ^ 2700 + 2 ^ 2700 := by rw [Nat.pow_succ]; omega
                omega
              have i4 : IntMulOk 2 a := small_mul (by decide)
              have q3 : (2 * a).natAbs < 2 ^ 3002 := mul_abs (m := 2) (n := 3000) (by decide) lw.an (by decide)
              have i5 : IntMulOk (2 * a) d1 := mulOk q3 s2 (by decide)
              have q4 : (2 * a * d1).natAbs < 2 ^ 4702 := mul_abs q3 s2 (by decide)
              have i6 : IntMulOk (2 * a * d1) d2 := mulOk q4 s4 (by decide)
              simp -implicitDefEqProofs [i1, i2, i3, i4, i5, i6]
              refine ends_rt ?_
              have : decide ((Rat.divInt n1 d1 + Rat.divInt n2 d2) * Rat.divInt 1 2 = Rat.divInt a b) = decide ((n1 * d2 + n2 * d1) * b = 2 * a * d1 * d2) := decide_eq_decide.mpr ee
              rw [this] at h
              exact h
  · exact h.elim
end
end U
end
section
set_option maxHeartbeats 1000000
namespace U
open PySem PySem.Spec PyProof.Rows L2 DL
/-! ### rounded by "odd" first -/
theorem how_spec (t : Rat) : how t = if t = (t.floor : Rat) then 0 else if 2 * t < ((2 * t.floor + 1 : Int) : Rat) then 1 else if 2 * t = ((2 * t.floor + 1 : Int) : Rat) then 2 else 3 := by
  have h2 : t = Rat.divInt t.num t.den := (Rat.num_divInt_den t).symm
  have hd := t.den_pos
  have hd' : (0 : Int) < t.den := by omega
  generalize hf : t.floor = f
  have e2 : 2 * t = Rat.divInt (2 * t.num) t.den := by
    conv => lhs; rw [h2]
    rw [show (2 : Rat) = Rat.divInt 2 1 from rfl, Rat.divInt_mul_divInt, Int.one_mul]
  have c1 : t = (f : Rat) ↔ 2 * (t.num - f * t.den) = 0 := by
    conv => lhs; rw [h2, ← int_div, Rat.divInt_eq_divInt_iff (by omega) (by decide)]
    omega
  have c2 : 2 * t < ((2 * f + 1 : Int) : Rat) ↔ 2 * (t.num - f * t.den) < t.den := by
    rw [e2, ← int_div, dlt hd' (by decide)]
    have : (2 * f + 1) * (t.den : Int) = 2 * (f * t.den) + t.den := by grind
    omega
  have c3 : 2 * t = ((2 * f + 1 : Int) : Rat) ↔ 2 * (t.num - f * t.den) = t.den := by
    rw [e2, ← int_div, Rat.divInt_eq_divInt_iff (by omega) (by decide)]
    have : (2 * f + 1) * (t.den : Int) = 2 * (f * t.den) + t.den := by grind
    omega
  unfold how
  rw [hf]
  simp only [c1, c2, c3]
theorem floor_eq_of {a b : Rat} (h : ∀ n : Int, (n : Rat) ≤ a ↔ (n : Rat) ≤ b) : a.floor = b.floor :=
  Int.le_antisymm (Rat.le_floor_iff.mpr ((h _).mp (Rat.floor_le a))) (Rat.le_floor_iff.mpr ((h _).mpr (Rat.floor_le b)))
section
variable {F G : Fm} {v : Va} {md ma : Md} {x y z : Rat} {s : Int}
theorem put_far (ht : F.tiny = true) (h : F.H < F.expo x) : (F.put md s x).1 = F.far md s := by
  rw [put_all (fun z => by rw [ht] at z; exact absurd z.1 (by decide))]
  unfold Fm.done
  split
  · first
    | rfl
    | (split
       · rfl
       · omega)
  · first
    | rfl
    | (split
       · rfl
       · omega)
/-- what rounding looks at is alike -/
structure Alike (F : Fm) (y z : Rat) : Prop where
  ex : F.expo y = F.expo z
  mt : F.mt y = F.mt z
  hw : F.hw y = F.hw z
theorem put_alike (ht : F.tiny = true) (h : Alike F y z) : (F.put md s y).1 = (F.put md s z).1 := by
  have no : ∀ q : Rat, ¬ (F.tiny = false ∧ F.nd q < F.p) := fun q z => by rw [ht] at z; exact absurd z.1 (by decide)
  rw [put_all (no y), put_all (no z)]
  unfold Fm.mr
  rw [h.ex, h.mt, h.hw]
  have key : ∀ n n' m e, (F.done md s n (F.hw z) m e).1 = (F.done md s n' (F.hw z) m e).1 := fun n n' m e => by
    unfold Fm.done
    split
    · rfl
    · split <;> rfl
  by_cases c : (if md.goes s (F.mt z) (F.hw z) = true then F.mt z + 1 else F.mt z) = (F.top : Int)
  · rw [if_pos c, if_pos c]; exact key _ _ _ _
  · rw [if_neg c, if_neg c]; exact key _ _ _ _
/-- y and z stand alike to all even places of a step -/
def Par (B : Nat) (e : Int) (y z : Rat) : Prop := ∀ k : Int, (y < ((2 * k : Int) : Rat) * pw B e ↔ z < ((2 * k : Int) : Rat) * pw B e) ∧ y ≠ ((2 * k : Int) : Rat) * pw B e ∧ z ≠ ((2 * k : Int) : Rat) * pw B e
theorem even_pw {B : Nat} (hb : 0 < B) (h2 : B % 2 = 0) {e f : Int} (h : e + 1 ≤ f) (n : Int) : ∃ k : Int, (n : Rat) * pw B f = ((2 * k : Int) : Rat) * pw B e := by
  obtain ⟨j, hj⟩ := Int.eq_ofNat_of_zero_le (show 0 ≤ f - (e + 1) by omega)
  have : f = ((j + 1 : Nat) : Int) + e := by omega
  rw [this, pw_add hb, pw_nat, ← Rat.mul_assoc, ← Rat.intCast_mul]
  refine ⟨n * ((B / 2 * B ^ j : Nat) : Int), ?_⟩
  congr 2
  have e1 : B ^ (j + 1) = 2 * (B / 2 * B ^ j) := by
    rw [Nat.pow_succ, ← Nat.mul_assoc, Nat.mul_comm]
    congr 1
    omega
  rw [e1]
  push_cast
  grind
theorem half_pw {B : Nat} (hb : 0 < B) (h2 : B % 2 = 0) {e f : Int} (h : e + 2 ≤ f) (n : Int) : ∃ k : Int, (n : Rat) * pw B f = 2 * (((2 * k : Int) : Rat) * pw B e) := by
  obtain ⟨k, hk⟩ := even_pw hb h2 (e := e) (f := f - 1) (by omega) (n * ((B / 2 : Nat) : Int))
  refine ⟨k, ?_⟩
  rw [← hk]
  have e1 : f = (1 : Nat) + (f - 1) := by omega
  conv => lhs; rw [e1]
  rw [pw_add hb, pw_nat]
  have e2 : B ^ 1 = 2 * (B / 2) := by rw [Nat.pow_one]; omega
  rw [e2]
  push_cast
  grind
theorem par_alike (ok : F.ok) (h2 : F.B % 2 = 0) (hy : 0 < y) (hz : 0 < z) {e : Int} (he : e + 2 ≤ F.expo y) (hp : Par F.B e y z) : Alike F y z := by
  have bp := ok.bp
  have p1 := ok.p1
  obtain ⟨g1, g2, g3⟩ := Fm.expo_spec ok hy
  have pw1 : ∀ f : Int, ((1 : Int) : Rat) * pw F.B f = pw F.B f := fun f => by rw [Rat.intCast_one, Rat.one_mul]
  have lt1 : ∀ f : Int, e + 1 ≤ f → (y < pw F.B f ↔ z < pw F.B f) := fun f hf => by
    obtain ⟨k, hk⟩ := even_pw bp h2 hf 1
    rw [← pw1, hk]
    exact (hp k).1
  have ex : F.expo z = F.expo y := by
    refine Fm.expo_uniq ok hz g1 ((lt1 _ (by omega)).mp g2) ?_
    rcases g3 with g3 | g3
    · exact .inl g3
    · exact .inr (Rat.not_lt.mp fun q => absurd ((lt1 _ (by omega)).mpr q) (Rat.not_lt.mpr g3))
  have fl : (sc F.B y (F.expo y)).floor = (sc F.B z (F.expo y)).floor := floor_eq_of fun n => by
    rw [le_scale bp, le_scale bp]
    obtain ⟨k, hk⟩ := even_pw bp h2 (e := e) (f := F.expo y) (by omega) n
    rw [hk]
    rw [← Rat.not_lt, ← Rat.not_lt, (hp k).1]
  refine ⟨ex.symm, by unfold Fm.mt; rw [ex]; exact fl, ?_⟩
  unfold Fm.hw
  rw [ex, how_spec, how_spec, fl]
  generalize (sc F.B z (F.expo y)).floor = f
  have q1 : ∀ t : Rat, (sc F.B t (F.expo y) = (f : Rat)) ↔ t = (f : Rat) * pw F.B (F.expo y) := fun t => eq_scale bp
  obtain ⟨k1, hk1⟩ := even_pw bp h2 (e := e) (f := F.expo y) (by omega) f
  obtain ⟨k2, hk2⟩ := half_pw bp h2 he (2 * f + 1)
  have n1 : ¬ sc F.B y (F.expo y) = (f : Rat) := fun q => (hp k1).2.1 (by rw [← hk1]; exact (q1 y).mp q)
  have n2 : ¬ sc F.B z (F.expo y) = (f : Rat) := fun q => (hp k1).2.2 (by rw [← hk1]; exact (q1 z).mp q)
  have q2 : ∀ t : Rat, (2 * sc F.B t (F.expo y) < ((2 * f + 1 : Int) : Rat)) ↔ t < ((2 * k2 : Int) : Rat) * pw F.B e := fun t => by
    have pp := pw_pos bp (F.expo y)
    have m := sc_mul bp t (F.expo y)
    generalize sc F.B t (F.expo y) = u at *
    generalize pw F.B (F.expo y) = w at *
    rw [← Rat.mul_lt_mul_right pp, hk2, ← m]
    constructor
    · intro q; grind
    · intro q; grind
  have q3 : ∀ t : Rat, (2 * sc F.B t (F.expo y) = ((2 * f + 1 : Int) : Rat)) → t = ((2 * k2 : Int) : Rat) * pw F.B e := fun t q => by
    have m := sc_mul bp t (F.expo y)
    generalize sc F.B t (F.expo y) = u at *
    generalize pw F.B (F.expo y) = w at *
    rw [← q] at hk2
    grind
  rw [if_neg n1, if_neg n2]
  simp only [q2]
  rw [if_neg (fun q => (hp k2).2.1 (q3 y q)), if_neg (fun q => (hp k2).2.2 (q3 z q))]
  by_cases c : y < ((2 * k2 : Int) : Rat) * pw F.B e
  · rw [if_pos c, if_pos ((hp k2).1.mp c)]
  · rw [if_neg c, if_neg (fun q => c ((hp k2).1.mpr q))]
theorem mr_odd (h0 : G.hw y ≠ 0) : (G.mr .odd s y = G.mt y ∨ G.mr .odd s y = G.mt y + 1) ∧ G.mr .odd s y % 2 = 1 := by
  unfold Fm.mr
  have : Md.odd.goes s (G.mt y) (G.hw y) = decide ((G.mt y).fmod 2 = 0) := by unfold Md.goes; rw [if_neg h0]
  rw [this]
  rw [Int.fmod_eq_emod_of_nonneg _ (by decide)]
  by_cases h : G.mt y % 2 = 0
  · rw [decide_eq_true h, if_pos rfl]; exact ⟨.inr rfl, by omega⟩
  · rw [decide_eq_false h, if_neg (by simp)]; exact ⟨.inl rfl, by omega⟩
theorem top_even (ok : G.ok) (h2 : G.B % 2 = 0) : G.top % 2 = 0 := by
  rw [ok.top_eq, Nat.mul_mod, h2]; simp
/-- what "odd" gives, where it is no number of the format and not beyond it -/
theorem put_odd (ok : G.ok) (ht : G.tiny = true) (h2 : G.B % 2 = 0) (hy : 0 < y) (hH : ¬ G.H < G.expo y) (h0 : G.hw y ≠ 0) :
    ∃ m : Nat, (G.put .odd s y).1 = .num s m (G.expo y) ∧ 1 ≤ m ∧ Par G.B (G.expo y) y ((m : Int) * pw G.B (G.expo y)) := by
  have bp := ok.bp
  obtain ⟨c1, c2⟩ := mr_odd (s := s) h0
  have mn := Fm.mt_nn ok hy
  have te := top_even ok h2
  rw [put_all (fun z => by rw [ht] at z; exact absurd z.1 (by decide))]
  have nt : ¬ G.mr .odd s y = G.top := by omega
  rw [if_neg nt]
  generalize hm : G.mr .odd s y = m at *
  obtain ⟨n, rfl⟩ := Int.eq_ofNat_of_zero_le (show 0 ≤ m by omega)
  refine ⟨n, ?_, by omega, fun k => ?_⟩
  · unfold Fm.done
    rw [if_neg hH, if_neg (by omega)]
    simp
  · have pp := pw_pos bp (G.expo y)
    have a1 : y < ((2 * k : Int) : Rat) * pw G.B (G.expo y) ↔ G.mt y < 2 * k := by
      unfold Fm.mt
      rw [Rat.floor_lt_iff, lt_scale bp]
    have a2 : ((n : Int) : Rat) * pw G.B (G.expo y) < ((2 * k : Int) : Rat) * pw G.B (G.expo y) ↔ (n : Int) < 2 * k := by
      rw [Rat.mul_lt_mul_right pp, Rat.intCast_lt_intCast]
    refine ⟨by rw [a1, a2]; omega, fun q => ?_, fun q => ?_⟩
    · have := (eq_scale bp).mpr q
      apply h0
      unfold Fm.hw
      rw [how_spec, if_pos]
      rw [this, Rat.floor_intCast]
    · have h3 : ((n : Int) : Rat) = ((2 * k : Int) : Rat) := by
        refine Rat.le_antisymm (Rat.not_lt.mp fun z => ?_) (Rat.not_lt.mp fun z => ?_)
        · have := (Rat.mul_lt_mul_right pp).mpr z
          rw [q] at this; exact absurd this Rat.lt_irrefl
        · have := (Rat.mul_lt_mul_right pp).mpr z
          rw [q] at this; exact absurd this Rat.lt_irrefl
      have : (n : Int) = 2 * k := by exact_mod_cast h3
      omega
/-- the room that "odd" wants -/
structure OddOk (F G : Fm) : Prop where
  b : F.B = G.B
  ev : F.B % 2 = 0
  ft : F.tiny = true
  gt : G.tiny = true
  p : F.p + 2 ≤ G.p
  l : G.L ≤ F.L - 2
  h : F.H + F.p + 1 < G.H + G.p
theorem odd_put (ok : F.ok) (okG : G.ok) (h : OddOk F G) (hs : sgn s) (hy : 0 < y) :
    ∃ (m : Nat) (e : Int), (G.put .odd s y).1 = .num s m e ∧ 1 ≤ m ∧ (F.put md s ((m : Int) * pw G.B e)).1 = (F.put md s y).1 := by
  have bp := okG.bp
  have hb := h.b
  have hgt := h.gt
  have noG : ¬ (G.tiny = false ∧ G.nd y < G.p) := fun z => by rw [hgt] at z; exact absurd z.1 (by decide)
  obtain ⟨g1, g2, g3⟩ := Fm.expo_spec okG hy
  obtain ⟨f1, f2, f3⟩ := Fm.expo_spec ok hy
  have hp := h.p; have hl := h.l; have hh := h.h
  by_cases hH : G.H < G.expo y
  · have tt := top_two okG
    refine ⟨G.top - 1, G.H, ?_, by omega, ?_⟩
    · rw [put_far hgt hH]
      unfold Fm.far
      simp [Md.out]
    · have gy : pw G.B (G.p + G.H) ≤ y := by
        rcases g3 with g3 | g3
        · have := okG.lh; omega
        · have : pw G.B (G.p + G.H) ≤ pw G.B (G.p - 1 + G.expo y) := pw_le okG.b2 (by omega)
          grind
      have c1 : F.H < F.expo y := by
        rw [hb] at f2
        have := pw_lt_inv okG.b2 (rle_lt gy f2)
        omega
      have hm : 0 < ((((G.top - 1 : Nat) : Int) : Rat)) * pw G.B G.H := num_pos okG (by omega)
      have gz : pw G.B (G.p - 1 + G.H) ≤ (((G.top - 1 : Nat) : Int) : Rat) * pw G.B G.H := by
        have e1 : (G.p : Int) - 1 + G.H = ((G.p - 1 : Nat) : Int) + G.H := by have := okG.p1; omega
        rw [e1, pw_add bp, pw_nat]
        refine Rat.mul_le_mul_of_nonneg_right ?_ (Rat.le_of_lt (pw_pos bp _))
        rw [Rat.intCast_le_intCast]
        have := okG.top_gt
        have : G.full = G.B ^ (G.p - 1) := rfl
        omega
      obtain ⟨k1, k2, k3⟩ := Fm.expo_spec ok hm
      have c2 : F.H < F.expo ((((G.top - 1 : Nat) : Int) : Rat) * pw G.B G.H) := by
        rw [hb] at k2
        have := pw_lt_inv okG.b2 (rle_lt gz k2)
        omega
      rw [put_far h.ft c1, put_far h.ft c2]
  · by_cases h0 : G.hw y = 0
    · have xe := hw_zero h0 bp
      have mn := Fm.mt_nn okG hy
      have hr : G.mr .odd s y = G.mt y := by unfold Fm.mr; rw [h0]; simp [Md.goes]
      have ml := Fm.mt_lt okG hy
      have nz : G.mt y ≠ 0 := fun z => by
        rw [z, Rat.intCast_zero, Rat.zero_mul] at xe
        rw [xe] at hy; exact absurd hy (by decide)
      obtain ⟨n, hn⟩ := Int.eq_ofNat_of_zero_le mn
      refine ⟨n, G.expo y, ?_, by omega, ?_⟩
      · rw [put_all noG, hr, if_neg (by omega)]
        unfold Fm.done
        rw [if_neg hH, if_neg nz, hn]
        simp
      · rw [← hn, ← xe]
    · obtain ⟨m, e1, e2, e3⟩ := put_odd (s := s) okG hgt (by rw [← hb]; exact h.ev) hy hH h0
      refine ⟨m, G.expo y, e1, e2, ?_⟩
      refine (put_alike h.ft (par_alike ok h.ev hy (num_pos okG e2) (e := G.expo y) ?_ (by rw [hb]; exact e3))).symm
      rcases g3 with g3 | g3
      · omega
      · rw [hb] at f2
        have := pw_lt_inv okG.b2 (rle_lt g3 f2)
        omega
theorem odd_law (ok : F.ok) (okG : G.ok) (h : OddOk F G) : (F.byOdd G md x).1 = (F.rnd md x 1).1 := by
  unfold Fm.byOdd Fm.into
  by_cases h0 : x = 0
  · subst h0
    rw [rnd_zero, rnd_zero]
    rfl
  · have hy := ab_pos h0
    obtain ⟨m, e, e1, e2, e3⟩ := odd_put (md := md) ok okG h (sg_sgn x) hy
    have hr : (G.rnd .odd x 1).1 = .num (sg x) m e := by
      unfold Fm.rnd
      rw [if_neg h0, e1]
    rw [hr]
    simp only [Va.isNum, if_true]
    unfold Fm.rnd
    rw [if_neg (val_ne okG (sg_sgn x) e2), if_neg h0, val_sg okG (sg_sgn x) e2, val_ab okG (sg_sgn x) e2, e3]
end
end U
end
section
set_option maxHeartbeats 1000000
namespace U
open PySem PySem.Spec PyProof.Rows L2 DL
/-! ### one format within another -/
def Rep (G : Fm) (y : Rat) : Prop := ∃ (m : Nat) (e : Int), Va.ok G (.num 1 m e) ∧ y = ((m : Int) : Rat) * pw G.B e
theorem num_eq {B : Nat} (hb : 0 < B) {m n : Nat} {e f : Int} (h : e ≤ f) : ((m : Int) : Rat) * pw B e = ((n : Int) : Rat) * pw B f ↔ m = n * B ^ (f - e).toNat := by
  obtain ⟨j, hj⟩ := Int.eq_ofNat_of_zero_le (show 0 ≤ f - e by omega)
  have e1 : f = ((j : Nat) : Int) + e := by omega
  have e2 : (f - e).toNat = j := by omega
  rw [e2]
  conv => lhs; rw [e1]
  rw [pw_add hb, pw_nat, ← Rat.mul_assoc, ← Rat.intCast_mul]
  have pp := pw_pos hb e
  constructor
  · intro h
    have h3 : ((m : Int) : Rat) = (((n : Int) * ((B ^ j : Nat) : Int) : Int) : Rat) := by
      refine Rat.le_antisymm (Rat.not_lt.mp fun z => ?_) (Rat.not_lt.mp fun z => ?_)
      · have := (Rat.mul_lt_mul_right pp).mpr z
        rw [h] at this; exact absurd this Rat.lt_irrefl
      · have := (Rat.mul_lt_mul_right pp).mpr z
        rw [h] at this; exact absurd this Rat.lt_irrefl
    have h4 : (m : Int) = (n : Int) * ((B ^ j : Nat) : Int) := by exact_mod_cast h3
    have h5 : (m : Int) = ((n * B ^ j : Nat) : Int) := by rw [h4]; push_cast; rfl
    omega
  · rintro rfl
    push_cast
    rfl
section
variable {F G : Fm} {v : Va} {md ma : Md} {x y z : Rat} {s : Int}
theorem rep_iff (ok : G.ok) (hy : 0 < y) : (G.rnd .zero y 1).2 = .none ↔ Rep G y := by
  rw [rnd_pos hy]
  constructor
  · intro h
    obtain ⟨m, e, h1, h2, h3⟩ := put_none ok (.inl rfl) hy h
    exact ⟨m, e, h2, h3⟩
  · rintro ⟨m, e, h1, rfl⟩
    rw [put_num ok h1]
theorem val_one {m : Nat} {e : Int} : Va.val F (.num 1 m e) = ((m : Int) : Rat) * pw F.B e := by
  show ((1 * (m : Int) : Int) : Rat) * pw F.B e = _
  rw [Int.one_mul]
theorem subs_iff (ok : F.ok) (okG : G.ok) : F.subs G ↔ ∀ (m : Nat) (e : Int), Va.ok F (.num 1 m e) → Rep G (((m : Int) : Rat) * pw F.B e) := by
  unfold Fm.subs
  constructor
  · intro h m e vo
    have := h m e vo
    rw [val_one] at this
    exact (rep_iff okG (num_pos ok vo.2.2.2.1)).mp this
  · intro h m e vo
    rw [val_one]
    exact (rep_iff okG (num_pos ok vo.2.2.2.1)).mpr (h m e vo)
/-- written with j digits more -/
theorem rep_shift (okG : G.ok) (m j : Nat) (e : Int) (h : Va.ok G (.num 1 (m * G.B ^ j) (e - j))) : Rep G (((m : Int) : Rat) * pw G.B e) :=
  ⟨m * G.B ^ j, e - j, h, by
    have := (num_eq okG.bp (m := m * G.B ^ j) (n := m) (e := e - j) (f := e) (by omega)).mpr (by
      have : (e - (e - (j : Int))).toNat = j := by omega
      rw [this])
    exact this.symm⟩
theorem fullPart_iff : F.fullPart G = true ↔ F.p ≤ G.p ∧ F.H + F.p ≤ G.H + G.p ∧ (if G.tiny = true then G.L else G.L + G.p - F.p) ≤ F.L := by
  unfold Fm.fullPart
  split
  · simp; omega
  · simp only [decide_eq_true_eq]; omega
/-- a number of the first is one of the second -/
theorem rep_of (ok : F.ok) (okG : G.ok) (hB : F.B = G.B) (hp : F.p ≤ G.p) (hH : F.H + F.p ≤ G.H + G.p) (hr : (G.tiny = true ∧ G.L ≤ F.L) ∨ (G.tiny = false ∧ ∀ k : Nat, 1 ≤ k → (F.tiny = true ∧ k < F.p ∨ k = F.p) → G.L + G.p ≤ F.L + k))
    {m : Nat} {e : Int} (vo : Va.ok F (.num 1 m e)) : Rep G (((m : Int) : Rat) * pw F.B e) := by
  obtain ⟨hs, l1, l2, l3, l4, l5⟩ := vo
  have b2 := okG.b2
  have bp := okG.bp
  have gp := okG.p1
  have fp := ok.p1
  have dg := dgN_ok ok.b2 m
  generalize dgN F.B m = k at dg
  have k1 : 1 ≤ k := by
    rcases Nat.eq_zero_or_pos k with z | z
    · have := dg.1; rw [z] at this; simp at this; omega
    · omega
  have d1 := dg.1
  have d2 := dg.2.resolve_left (by omega)
  have kp : k ≤ F.p := by
    rcases (by omega : k ≤ F.p ∨ F.p ≤ k - 1) with z | z
    · exact z
    · have : F.B ^ F.p ≤ F.B ^ (k - 1) := Nat.pow_le_pow_right ok.bp z
      have : F.top = F.B ^ F.p := rfl
      omega
  have kf : F.full ≤ m → k = F.p := fun h => by
    rcases (by omega : k = F.p ∨ k ≤ F.p - 1) with z | z
    · exact z
    · have : F.B ^ k ≤ F.B ^ (F.p - 1) := Nat.pow_le_pow_right ok.bp z
      have : F.full = F.B ^ (F.p - 1) := rfl
      omega
  rw [hB] at d1 d2 ⊢
  -- so many digits more
  have main : ∀ j : Nat, k + j ≤ G.p → G.L ≤ e - j → e - j ≤ G.H → (k + j = G.p ∨ (G.tiny = true ∧ e - j = G.L)) → Rep G (((m : Int) : Rat) * pw G.B e) := fun j c1 c2 c3 c4 => by
    refine rep_shift okG m j e ⟨.inl rfl, c2, c3, ?_, ?_, ?_⟩
    · exact Nat.mul_pos l3 (Nat.pow_pos bp)
    · have : m * G.B ^ j < G.B ^ k * G.B ^ j := Nat.mul_lt_mul_of_pos_right d1 (Nat.pow_pos bp)
      rw [← Nat.pow_add] at this
      have : G.B ^ (k + j) ≤ G.B ^ G.p := Nat.pow_le_pow_right bp c1
      have : G.top = G.B ^ G.p := rfl
      omega
    · rcases c4 with c4 | c4
      · left
        have : G.B ^ (k - 1) * G.B ^ j ≤ m * G.B ^ j := Nat.mul_le_mul_right _ d2
        rw [← Nat.pow_add] at this
        have e1 : k - 1 + j = G.p - 1 := by omega
        rw [e1] at this
        exact this
      · exact .inr c4
  rcases hr with ⟨ht, hl⟩ | ⟨ht, hl⟩
  · obtain ⟨t, hte⟩ := Int.eq_ofNat_of_zero_le (show 0 ≤ e - G.L by omega)
    by_cases c : G.p - k ≤ t
    · exact main (G.p - k) (by omega) (by omega) (by omega) (.inl (by omega))
    · exact main t (by omega) (by omega) (by have := okG.lh; omega) (.inr ⟨ht, by omega⟩)
  · have := hl k k1 (by
      rcases l5 with z | z
      · exact .inr (kf z)
      · rcases (by omega : k < F.p ∨ k = F.p) with q | q
        · exact .inl ⟨z.1, q⟩
        · exact .inr q)
    exact main (G.p - k) (by omega) (by omega) (by omega) (.inl (by omega))
theorem part_subs (ok : F.ok) (okG : G.ok) (hB : F.B = G.B) (h : F.part G = true) : F.subs G := by
  rw [subs_iff ok okG]
  intro m e vo
  have fp := ok.p1
  unfold Fm.part at h
  rw [if_pos hB] at h
  cases ht : F.tiny with
  | false =>
    rw [ht, if_pos rfl, fullPart_iff] at h
    obtain ⟨h1, h2, h3⟩ := h
    refine rep_of ok okG hB h1 h2 ?_ vo
    cases hg : G.tiny with
    | true => rw [hg] at h3; exact .inl ⟨rfl, by simpa using h3⟩
    | false =>
      rw [hg] at h3
      refine .inr ⟨rfl, fun k k1 hk => ?_⟩
      simp [ht] at h3 hk
      omega
  | true =>
    rw [ht] at h
    cases hg : G.tiny with
    | true =>
      rw [hg] at h
      simp at h
      obtain ⟨h0, h⟩ := h
      rw [fullPart_iff] at h
      exact rep_of ok okG hB h.1 h.2.1 (.inl ⟨hg, h0⟩) vo
    | false =>
      rw [hg] at h
      simp [Fm.lowPart] at h
      rcases h with ⟨h0, h⟩ | ⟨h0, h⟩
      · rw [fullPart_iff, hg] at h
        obtain ⟨h1, h2, h3⟩ := h
        simp at h3
        refine rep_of ok okG hB h1 h2 (.inr ⟨hg, fun k k1 hk => ?_⟩) vo
        omega
      · rw [fullPart_iff] at h
        refine rep_of ok okG hB h.1 h.2.1 (.inr ⟨hg, fun k k1 hk => ?_⟩) vo
        omega
theorem rep_lo (okG : G.ok) {m : Nat} {e : Int} (ht : G.tiny = false) (h : Rep G (((m : Int) : Rat) * pw G.B e)) : pw G.B (G.p - 1 + G.L) ≤ ((m : Int) : Rat) * pw G.B e := by
  obtain ⟨n, f, ⟨hs, l1, l2, l3, l4, l5⟩, q⟩ := h
  rw [q]
  have c : G.full ≤ n := by
    rcases l5 with z | z
    · exact z
    · rw [ht] at z; cases z.1
  have e1 : (G.p : Int) - 1 + G.L = ((G.p - 1 : Nat) : Int) + G.L := by have := okG.p1; omega
  have c1 : pw G.B (((G.p - 1 : Nat) : Int) + G.L) ≤ pw G.B (((G.p - 1 : Nat) : Int) + f) := pw_le okG.b2 (by omega)
  rw [e1]
  refine Rat.le_trans c1 ?_
  rw [pw_add okG.bp, pw_nat]
  refine Rat.mul_le_mul_of_nonneg_right ?_ (Rat.le_of_lt (pw_pos okG.bp _))
  rw [Rat.intCast_le_intCast]
  have : G.full = G.B ^ (G.p - 1) := rfl
  omega
theorem rep_hi (okG : G.ok) {m : Nat} {e : Int} (h : Rep G (((m : Int) : Rat) * pw G.B e)) : ((m : Int) : Rat) * pw G.B e < pw G.B (G.p + G.H) := by
  obtain ⟨n, f, ⟨hs, l1, l2, l3, l4, l5⟩, q⟩ := h
  rw [q]
  have c1 : pw G.B ((G.p : Nat) + f) ≤ pw G.B (G.p + G.H) := pw_le okG.b2 (by omega)
  refine rlt_le ?_ c1
  rw [pw_add okG.bp, pw_nat, Rat.mul_lt_mul_right (pw_pos okG.bp _), Rat.intCast_lt_intCast]
  have : G.top = G.B ^ G.p := rfl
  omega
/-- a number whose last digit is not nought -/
theorem rep_last (okG : G.ok) {m : Nat} {e : Int} (hm : m % G.B ≠ 0) (h : Rep G (((m : Int) : Rat) * pw G.B e)) : G.L ≤ e ∧ m < G.top := by
  obtain ⟨n, f, ⟨hs, l1, l2, l3, l4, l5⟩, q⟩ := h
  have bp := okG.bp
  have hf : f ≤ e := by
    rcases (by omega : f ≤ e ∨ e < f) with z | z
    · exact z
    · exfalso
      rw [num_eq bp (by omega)] at q
      obtain ⟨j, hj⟩ := Int.eq_ofNat_of_zero_le (show 0 ≤ f - e - 1 by omega)
      have : (f - e).toNat = j + 1 := by omega
      rw [this, Nat.pow_succ, ← Nat.mul_assoc] at q
      exact hm (by rw [q]; exact Nat.mul_mod_left _ _)
  refine ⟨by omega, ?_⟩
  have := (num_eq bp hf).mp q.symm
  have : m * 1 ≤ m * G.B ^ (e - f).toNat := Nat.mul_le_mul_left _ (Nat.pow_pos bp)
  omega
theorem subs_part (ok : F.ok) (okG : G.ok) (hB : F.B = G.B) (h : F.subs G) : F.part G = true := by
  rw [subs_iff ok okG] at h
  have lh := ok.lh; have fp := ok.full_pos; have tg := ok.top_gt; have te := ok.top_eq; have b2 := ok.b2; have p1 := ok.p1; have gp1 := okG.p1
  have okf : ∀ e, F.L ≤ e → e ≤ F.H → Va.ok F (.num 1 F.full e) := fun e h1 h2 => ⟨.inl rfl, h1, h2, fp, tg, .inl (Nat.le_refl _)⟩
  have pf : ∀ e : Int, ((F.full : Int) : Rat) * pw F.B e = pw F.B (((F.p - 1 : Nat) : Int) + e) := fun e => by
    rw [pw_add ok.bp, pw_nat]; rfl
  -- a number with all digits whose last one is not nought
  obtain ⟨w, w1, w2, w3⟩ : ∃ w : Nat, F.full ≤ w ∧ w < F.top ∧ w % G.B ≠ 0 := by
    by_cases c : F.p = 1
    · refine ⟨F.full, Nat.le_refl _, tg, ?_⟩
      have : F.full = 1 := by unfold Fm.full; rw [c]; rfl
      rw [this, ← hB, Nat.mod_eq_of_lt (by omega)]
      decide
    · have e1 : F.full = F.B * F.B ^ (F.p - 2) := by
        unfold Fm.full
        have : F.p - 1 = F.p - 2 + 1 := by omega
        rw [this, Nat.pow_succ, Nat.mul_comm]
      have e2 : 2 ≤ F.full := by
        have : F.B * 1 ≤ F.B * F.B ^ (F.p - 2) := Nat.mul_le_mul_left _ (Nat.pow_pos ok.bp)
        omega
      have e3 : F.full * 2 ≤ F.full * F.B := Nat.mul_le_mul_left _ b2
      refine ⟨F.full + 1, by omega, by omega, ?_⟩
      rw [e1, ← hB, Nat.mul_add_mod, Nat.mod_eq_of_lt (by omega)]
      decide
  have hw := h w F.L ⟨.inl rfl, by omega, lh, by omega, w2, .inl w1⟩
  have hH := h F.full F.H (okf _ lh (Int.le_refl _))
  have hL := h F.full F.L (okf _ (Int.le_refl _) lh)
  have pL := pf F.L
  have pH := pf F.H
  rw [hB] at hw hH hL pL pH
  obtain ⟨q1, q2⟩ := rep_last okG w3 hw
  have cp : F.p ≤ G.p := by
    rcases (by omega : F.p ≤ G.p ∨ G.p ≤ F.p - 1) with z | z
    · exact z
    · have : G.B ^ G.p ≤ G.B ^ (F.p - 1) := Nat.pow_le_pow_right okG.bp z
      have : G.top = G.B ^ G.p := rfl
      have : F.full = F.B ^ (F.p - 1) := rfl
      rw [hB] at this
      omega
  have cH : F.H + F.p ≤ G.H + G.p := by
    have := rep_hi okG hH
    rw [pH] at this
    have := pw_lt_inv okG.b2 this
    omega
  have cL : (if G.tiny = true then G.L else G.L + G.p - F.p) ≤ F.L := by
    cases hg : G.tiny with
    | true => simpa using q1
    | false =>
      have := rep_lo okG hg hL
      rw [pL] at this
      rcases (by omega : (G.p : Int) - 1 + G.L ≤ ((F.p - 1 : Nat) : Int) + F.L ∨ ((F.p - 1 : Nat) : Int) + F.L + 1 ≤ (G.p : Int) - 1 + G.L) with z | z
      · simp; omega
      · exfalso
        have h1 : pw G.B (((F.p - 1 : Nat) : Int) + F.L) < pw G.B ((G.p : Int) - 1 + G.L) := by
          have h2 : pw G.B (((F.p - 1 : Nat) : Int) + F.L + 1) ≤ pw G.B ((G.p : Int) - 1 + G.L) := pw_le okG.b2 z
          have h3 := pw_pos okG.bp (((F.p - 1 : Nat) : Int) + F.L)
          have h4 : pw G.B (((F.p - 1 : Nat) : Int) + F.L + 1) = pw G.B (((F.p - 1 : Nat) : Int) + F.L) * pw G.B (1 : Nat) := pw_add okG.bp _ _
          rw [pw_nat, Nat.pow_one] at h4
          have h5 : ((2 : Int) : Rat) ≤ ((G.B : Int) : Rat) := by rw [Rat.intCast_le_intCast]; have := okG.b2; omega
          have h6 := Rat.mul_le_mul_of_nonneg_left h5 (Rat.le_of_lt h3)
          have h7 : ((2 : Int) : Rat) = 2 := rfl
          rw [h7] at h6
          grind
        exact absurd this (Rat.not_le.mpr h1)
  have full := fullPart_iff.mpr ⟨cp, cH, cL⟩
  unfold Fm.part
  rw [if_pos hB]
  cases ht : F.tiny with
  | false => rw [if_pos rfl]; exact full
  | true =>
    rw [if_neg (by simp)]
    cases hg : G.tiny with
    | true => simp [q1, full]
    | false =>
      by_cases c : F.p = 1
      · simp [c, full]
      · have f2 : 2 ≤ F.full := by
          unfold Fm.full
          have : F.p - 1 = F.p - 2 + 1 := by omega
          rw [this, Nat.pow_succ]
          have : 1 * F.B ≤ F.B ^ (F.p - 2) * F.B := Nat.mul_le_mul_right _ (Nat.pow_pos ok.bp)
          omega
        have h1 := h 1 F.L ⟨.inl rfl, Int.le_refl _, lh, by omega, by omega, .inr ⟨ht, rfl⟩⟩
        rw [hB] at h1
        have := rep_lo okG hg h1
        have e1 : (((1 : Nat) : Int) : Rat) * pw G.B F.L = pw G.B F.L := by
          have : (((1 : Nat) : Int) : Rat) = 1 := rfl
          rw [this, Rat.one_mul]
        rw [e1] at this
        rcases (by omega : (G.p : Int) - 1 + G.L ≤ F.L ∨ F.L + 1 ≤ (G.p : Int) - 1 + G.L) with z | z
        · simp [Fm.lowPart, full]
          right; omega
        · exfalso
          have h2 : pw G.B (F.L + 1) ≤ pw G.B ((G.p : Int) - 1 + G.L) := pw_le okG.b2 z
          have h3 := pw_pos okG.bp F.L
          have h4 : pw G.B (F.L + 1) = pw G.B F.L * pw G.B (1 : Nat) := pw_add okG.bp _ _
          rw [pw_nat, Nat.pow_one] at h4
          have h5 : ((2 : Int) : Rat) ≤ ((G.B : Int) : Rat) := by rw [Rat.intCast_le_intCast]; have := okG.b2; omega
          have h6 := Rat.mul_le_mul_of_nonneg_left h5 (Rat.le_of_lt h3)
          have h7 : ((2 : Int) : Rat) = 2 := rfl
          rw [h7] at h6
          grind
theorem subsB_iff : F.subsB G = true ↔ F.subs G := by simp [Fm.subsB]
theorem part_eq (ok : F.ok) (okG : G.ok) (hB : F.B = G.B) : F.part G = F.subsB G :=
  Bool.eq_iff_iff.mpr ⟨fun h => subsB_iff.mpr (part_subs ok okG hB h), fun h => subs_part ok okG hB (subsB_iff.mp h)⟩
end
theorem le_num {x : Rat} (h : 0 ≤ x) : x ≤ (x.num : Rat) := by
  have h2 : x = Rat.divInt x.num x.den := (Rat.num_divInt_den x).symm
  have hd := x.den_pos
  have hn : 0 ≤ x.num := Rat.num_nonneg.mpr h
  conv => lhs; rw [h2]
  rw [← int_div, dle (by omega) (by decide)]
  have : x.num * 1 ≤ x.num * x.den := Int.mul_le_mul_of_nonneg_left (by omega) hn
  exact this
theorem ab_num (x : Rat) : (ab x).num = x.num.natAbs := by
  unfold ab
  split
  · rename_i h
    have := (num_neg_iff x).mpr h
    show -x.num = _
    omega
  · rename_i h
    have : ¬ x.num < 0 := fun z => h ((num_neg_iff x).mp z)
    omega
theorem ab_den (x : Rat) : (ab x).den = x.den := by unfold ab; split <;> rfl
theorem ab_nn (x : Rat) : 0 ≤ ab x := by unfold ab; split <;> grind
end U
end
section
set_option maxHeartbeats 1000000
namespace U
open PySem PySem.Spec PyProof.Rows L2 DL
/-! ### the order of values -/
def Va.sgI : Va → Int
  | .inf s => s
  | _ => 0
def Va.le (F : Fm) (u v : Va) : Prop := if u.sgI ≠ v.sgI then u.sgI < v.sgI else u.val F ≤ v.val F
section
variable {F G : Fm} {u v : Va} {md ma : Md} {x y z : Rat} {s : Int}
/-- the size of a number below that with a greater exponent -/
theorem pos_lt (ok : F.ok) {m n : Nat} {e f : Int} (vo : Va.ok F (.num s m e)) (uo : Va.ok F (.num s n f)) (h : e < f ∨ (e = f ∧ m < n)) :
    F.pos m e < F.pos n f ∧ ((m : Int) : Rat) * pw F.B e < ((n : Int) : Rat) * pw F.B f := by
  obtain ⟨hs, l1, l2, l3, l4, l5⟩ := vo
  obtain ⟨hs', k1, k2, k3, k4, k5⟩ := uo
  have hw := Fm.w_pos ok
  have ew : F.w = (F.top : Int) - F.full := rfl
  have fp := ok.full_pos
  have ft : F.tiny = true → F.fewI = (F.full : Int) - 1 := fun z => by unfold Fm.fewI; rw [if_pos z]
  have fn := few_nn ok
  rcases h with h | ⟨rfl, h⟩
  · have nf : F.full ≤ n := by
      rcases k5 with z | z
      · exact z
      · omega
    constructor
    · have q : F.pos n f = F.fewI + (f - F.L) * F.w + n - F.full + 1 := by unfold Fm.pos; rw [if_neg (by omega)]
      rw [q]
      have q2 : (e - F.L + 1) * F.w ≤ (f - F.L) * F.w := Int.mul_le_mul_of_nonneg_right (by omega) (by omega)
      rw [Int.add_mul, Int.one_mul] at q2
      have q3 : 0 ≤ (e - F.L) * F.w := Int.mul_nonneg (by omega) (by omega)
      unfold Fm.pos
      split
      · rename_i hm
        rcases l5 with z | z
        · omega
        · have := ft z.1; omega
      · omega
    · have c1 : pw F.B (((F.p : Nat) : Int) + e) ≤ pw F.B (((F.p - 1 : Nat) : Int) + f) := pw_le ok.b2 (by have := ok.p1; omega)
      rw [pw_add ok.bp, pw_add ok.bp, pw_nat, pw_nat] at c1
      have c2 : ((m : Int) : Rat) * pw F.B e < (((F.B ^ F.p : Nat) : Int) : Rat) * pw F.B e := by
        rw [Rat.mul_lt_mul_right (pw_pos ok.bp e), Rat.intCast_lt_intCast]
        have : F.top = F.B ^ F.p := rfl
        omega
      have c3 : (((F.B ^ (F.p - 1) : Nat) : Int) : Rat) * pw F.B f ≤ ((n : Int) : Rat) * pw F.B f := by
        refine Rat.mul_le_mul_of_nonneg_right ?_ (Rat.le_of_lt (pw_pos ok.bp f))
        rw [Rat.intCast_le_intCast]
        have : F.full = F.B ^ (F.p - 1) := rfl
        omega
      grind
  · constructor
    · unfold Fm.pos
      by_cases c1 : (m : Int) < F.full
      · rw [if_pos c1]
        rcases l5 with z | z
        · omega
        · have := ft z.1
          by_cases c2 : (n : Int) < F.full
          · rw [if_pos c2]; omega
          · rw [if_neg c2]
            have q3 : 0 ≤ (e - F.L) * F.w := Int.mul_nonneg (by omega) (by omega)
            omega
      · rw [if_neg c1, if_neg (by omega)]; omega
    · rw [Rat.mul_lt_mul_right (pw_pos ok.bp e), Rat.intCast_lt_intCast]
      omega
theorem pos_cmp (ok : F.ok) {m n : Nat} {e f : Int} (vo : Va.ok F (.num s m e)) (uo : Va.ok F (.num s n f)) : F.pos m e ≤ F.pos n f ↔ ((m : Int) : Rat) * pw F.B e ≤ ((n : Int) : Rat) * pw F.B f := by
  rcases (by omega : (e < f ∨ (e = f ∧ m < n)) ∨ (e = f ∧ m = n) ∨ (f < e ∨ (f = e ∧ n < m))) with h | ⟨rfl, rfl⟩ | h
  · obtain ⟨a, b⟩ := pos_lt ok vo uo h
    exact ⟨fun _ => Rat.le_of_lt b, fun _ => by omega⟩
  · exact ⟨fun _ => Rat.le_refl, fun _ => Int.le_refl _⟩
  · obtain ⟨a, b⟩ := pos_lt ok uo vo h
    exact ⟨fun q => by omega, fun q => absurd q (Rat.not_le.mpr b)⟩
theorem val_pos (ok : F.ok) {m : Nat} {e : Int} (hm : 1 ≤ m) : 0 < Va.val F (.num 1 m e) := by
  rw [val_one]; exact num_pos ok hm
theorem val_neg {m : Nat} {e : Int} : Va.val F (.num (-1) m e) = -(((m : Int) : Rat) * pw F.B e) := by
  show ((-1 * (m : Int) : Int) : Rat) * pw F.B e = _
  rw [Int.neg_one_mul, Rat.intCast_neg, Rat.neg_mul]
theorem ok_sgn {m : Nat} {e t : Int} (vo : Va.ok F (.num s m e)) (ht : sgn t) : Va.ok F (.num t m e) := ⟨ht, vo.2⟩
/-- ranks stand as numbers do -/
theorem rk_le (ok : F.ok) (uo : u.ok F) (vo : v.ok F) (un : u ≠ .nan) (vn : v ≠ .nan) : F.rk u ≤ F.rk v ↔ u.le F v := by
  have mp := many_pos ok
  have z0 : ∀ s, F.rk (.zero s) = 0 := fun _ => rfl
  have zv : ∀ s, Va.val F (.zero s) = 0 := fun _ => rfl
  unfold Va.le
  cases u with
  | nan => exact absurd rfl un
  | inf s =>
    have hs : sgn s := uo
    have e1 : F.rk (.inf s) = s * (F.many + 1) := rfl
    cases v with
    | nan => exact absurd rfl vn
    | inf t =>
      have ht : sgn t := vo
      have e2 : F.rk (.inf t) = t * (F.many + 1) := rfl
      rw [e1, e2]
      rcases hs with rfl | rfl <;> rcases ht with rfl | rfl <;> simp [Va.sgI, Va.val] <;> omega
    | zero t =>
      rw [e1, z0]
      rcases hs with rfl | rfl <;> simp [Va.sgI] <;> omega
    | num t n f =>
      have b := rk_bd ok vo
      rw [e1]
      rcases hs with rfl | rfl
      · simp [Va.sgI]
        have : F.rk (.num t n f) ≠ F.many + 1 := fun z => by have := b.2.2 z; cases this
        omega
      · simp [Va.sgI]; omega
  | zero s =>
    cases v with
    | nan => exact absurd rfl vn
    | inf t =>
      have ht : sgn t := vo
      have e2 : F.rk (.inf t) = t * (F.many + 1) := rfl
      rw [e2, z0]
      rcases ht with rfl | rfl <;> simp [Va.sgI] <;> omega
    | zero t => rw [z0, z0, zv, zv]; simp [Va.sgI]
    | num t n f =>
      have b := pos_bd ok vo
      have q := num_pos (F := F) (e := f) ok vo.2.2.2.1
      rw [z0, zv, rk_num]
      rcases vo.1 with rfl | rfl
      · rw [val_one]; simp [Va.sgI]
        constructor
        · intro _; exact Rat.le_of_lt q
        · intro _; omega
      · rw [val_neg]; simp [Va.sgI]
        constructor
        · intro h; omega
        · intro h; grind
  | num s m e =>
    have bu := pos_bd ok uo
    have qu := num_pos (F := F) (e := e) ok uo.2.2.2.1
    cases v with
    | nan => exact absurd rfl vn
    | inf t =>
      have ht : sgn t := vo
      have e2 : F.rk (.inf t) = t * (F.many + 1) := rfl
      rw [e2]
      have b := rk_bd ok uo
      rcases ht with rfl | rfl
      · simp [Va.sgI]; omega
      · have : F.rk (.num s m e) ≠ -(F.many + 1) := fun z => by
          rw [rk_num] at z
          rcases uo.1 with rfl | rfl <;> omega
        simp [Va.sgI]; omega
    | zero t =>
      rw [z0, zv, rk_num]
      rcases uo.1 with rfl | rfl
      · rw [val_one]; simp [Va.sgI]
        constructor
        · intro h; omega
        · intro h; grind
      · rw [val_neg]; simp [Va.sgI]
        constructor
        · intro _; grind
        · intro _; omega
    | num t n f =>
      have bv := pos_bd ok vo
      have qv := num_pos (F := F) (e := f) ok vo.2.2.2.1
      rw [rk_num, rk_num]
      have us := uo.1
      have vs := vo.1
      have c1 := pos_cmp ok (ok_sgn uo (.inl rfl)) (ok_sgn vo (.inl rfl))
      have c2 := pos_cmp ok (ok_sgn vo (.inl rfl)) (ok_sgn uo (.inl rfl))
      rcases us with rfl | rfl <;> rcases vs with rfl | rfl
      · rw [val_one, val_one]; simp [Va.sgI]; exact c1
      · rw [val_one, val_neg]; simp [Va.sgI]
        constructor
        · intro h; omega
        · intro h; grind
      · rw [val_neg, val_one]; simp [Va.sgI]
        constructor
        · intro _; grind
        · intro _; omega
      · rw [val_neg, val_neg]; simp [Va.sgI]
        rw [← c2]
/-- outward rounding -/
theorem put_le (hz : md.tz s) (ok : F.ok) (hs : sgn s) (hx : 0 < x) : (F.put md s x).1.fin = true ∧ ((F.put md s x).1.val F = 0 ∨ ∃ m e, (F.put md s x).1 = .num s m e ∧ ((m : Int) : Rat) * pw F.B e ≤ x) := by
  by_cases h1 : F.tiny = false ∧ F.nd x < F.p
  · rw [put_few ok h1.1 h1.2]
    unfold Fm.low
    rw [hz.low]
    exact ⟨rfl, .inl rfl⟩
  · rw [put_all h1]
    obtain ⟨g1, g2, g3⟩ := Fm.expo_spec ok hx
    have mn := Fm.mt_nn ok hx
    have ml := Fm.mt_lt ok hx
    have mz : F.mr md s x = F.mt x := by unfold Fm.mr; rw [hz.goes]; rfl
    have ne : ¬ F.mt x = F.top := by omega
    rw [mz, if_neg ne]
    unfold Fm.done
    by_cases hH : F.H < F.expo x
    · rw [if_pos hH]
      unfold Fm.far
      rw [hz.out]
      refine ⟨rfl, .inr ⟨_, _, rfl, ?_⟩⟩
      have c : pw F.B (F.p + F.H) ≤ x := by
        rcases g3 with g3 | g3
        · have := ok.lh; omega
        · have : pw F.B (F.p + F.H) ≤ pw F.B (F.p - 1 + F.expo x) := pw_le ok.b2 (by omega)
          grind
      refine Rat.le_trans (Rat.le_of_lt ?_) c
      rw [pw_add ok.bp, pw_nat, Rat.mul_lt_mul_right (pw_pos ok.bp _), Rat.intCast_lt_intCast]
      have := top_two ok
      have : F.top = F.B ^ F.p := rfl
      omega
    · rw [if_neg hH]
      by_cases h0 : F.mt x = 0
      · rw [if_pos h0]; exact ⟨rfl, .inl rfl⟩
      · rw [if_neg h0]
        refine ⟨rfl, .inr ⟨_, _, rfl, ?_⟩⟩
        have e : ((F.mt x).toNat : Int) = F.mt x := by omega
        rw [e, ← le_scale ok.bp]
        exact Rat.floor_le _
theorem put_ge (ha : ma.aw s) (ok : F.ok) (hs : sgn s) (hx : 0 < x) : (F.put ma s x).1 = .inf s ∨ ∃ m e, (F.put ma s x).1 = .num s m e ∧ x ≤ ((m : Int) : Rat) * pw F.B e := by
  by_cases h1 : F.tiny = false ∧ F.nd x < F.p
  · rw [put_few ok h1.1 h1.2]
    unfold Fm.low
    rw [ha.low]
    refine .inr ⟨_, _, rfl, ?_⟩
    have := (Fm.few_iff ok hx).mp h1.2
    refine Rat.le_of_lt ?_
    have e1 : (F.p : Int) - 1 + F.L = ((F.p - 1 : Nat) : Int) + F.L := by have := ok.p1; omega
    rw [e1, pw_add ok.bp, pw_nat] at this
    exact this
  · rw [put_all h1]
    obtain ⟨g1, g2, g3⟩ := Fm.expo_spec ok hx
    have mn := Fm.mt_nn ok hx
    have ml := Fm.mt_lt ok hx
    by_cases h0 : F.hw x = 0
    · have mr : F.mr ma s x = F.mt x := by unfold Fm.mr; rw [h0]; simp [Md.goes]
      have ne : ¬ F.mt x = F.top := by omega
      have xe := hw_zero h0 ok.bp
      rw [mr, if_neg ne]
      unfold Fm.done
      by_cases hH : F.H < F.expo x
      · rw [if_pos hH]
        unfold Fm.far
        rw [ha.out]
        exact .inl rfl
      · rw [if_neg hH]
        by_cases hm : F.mt x = 0
        · rw [hm, Rat.intCast_zero, Rat.zero_mul] at xe
          rw [xe] at hx; exact absurd hx (by decide)
        · rw [if_neg hm]
          refine .inr ⟨_, _, rfl, ?_⟩
          have e : ((F.mt x).toNat : Int) = F.mt x := by omega
          rw [e]
          rw [← xe]; exact Rat.le_refl
    · have mr : F.mr ma s x = F.mt x + 1 := by unfold Fm.mr; rw [ha.goes _ _ h0]; rfl
      have up : x ≤ ((F.mt x + 1 : Int) : Rat) * pw F.B (F.expo x) := by
        have := Rat.lt_floor_add_one (sc F.B x (F.expo x))
        rw [lt_scale ok.bp] at this
        exact Rat.le_of_lt this
      rw [mr]
      have far : ∀ n h m e, F.H < e → (F.done ma s n h m e).1 = .inf s := fun n h m e he => by
        unfold Fm.done
        rw [if_pos he]
        unfold Fm.far
        rw [ha.out]; rfl
      split
      · rename_i ht
        by_cases hH : F.H < F.expo x + 1
        · exact .inl (far _ _ _ _ hH)
        · unfold Fm.done
          rw [if_neg hH, if_neg (by have := ok.full_pos; omega)]
          refine .inr ⟨_, _, rfl, ?_⟩
          rw [ht] at up
          refine Rat.le_trans up ?_
          rw [Int.toNat_natCast]
          have e1 : F.expo x + 1 = ((1 : Nat) : Int) + F.expo x := by omega
          rw [e1, pw_add ok.bp, pw_nat, Nat.pow_one, ← Rat.mul_assoc, ← Rat.intCast_mul, ok.top_eq]
          push_cast
          exact Rat.le_refl
      · by_cases hH : F.H < F.expo x
        · exact .inl (far _ _ _ _ hH)
        · unfold Fm.done
          rw [if_neg hH, if_neg (by omega)]
          refine .inr ⟨_, _, rfl, ?_⟩
          have e : ((F.mt x + 1).toNat : Int) = F.mt x + 1 := by omega
          rw [e]; exact up
end
end U
end
section
set_option maxHeartbeats 1000000
namespace U
open PySem PySem.Spec PyProof.Rows L2 DL
/-! ### outward rounding, intervals -/
section
variable {F G : Fm} {u v : Va} {md ma : Md} {x y z : Rat} {s : Int}
theorem dn_spec (ok : F.ok) (hs : sgn s) : (F.rnd .down x s).1 = .inf (-1) ∨ ((F.rnd .down x s).1.fin = true ∧ (F.rnd .down x s).1.val F ≤ x) := by
  rcases tri x with hx | hx | hx
  · rw [rnd_neg hx]
    rcases put_ge (s := -1) aw_down ok (.inr rfl) (show 0 < -x by grind) with h | ⟨m, e, h, q⟩
    · exact .inl h
    · rw [h]
      refine .inr ⟨rfl, ?_⟩
      rw [val_neg]; grind
  · subst hx
    rw [rnd_zero]
    exact .inr ⟨rfl, Rat.le_refl⟩
  · rw [rnd_pos hx]
    obtain ⟨f, h⟩ := put_le (s := 1) tz_down ok (.inl rfl) hx
    refine .inr ⟨f, ?_⟩
    rcases h with h | ⟨m, e, h, q⟩
    · rw [h]; exact Rat.le_of_lt hx
    · rw [h, val_one]; exact q
theorem up_spec (ok : F.ok) (hs : sgn s) : (F.rnd .up x s).1 = .inf 1 ∨ ((F.rnd .up x s).1.fin = true ∧ x ≤ (F.rnd .up x s).1.val F) := by
  rcases tri x with hx | hx | hx
  · rw [rnd_neg hx]
    obtain ⟨f, h⟩ := put_le (s := -1) tz_up ok (.inr rfl) (show 0 < -x by grind)
    refine .inr ⟨f, ?_⟩
    rcases h with h | ⟨m, e, h, q⟩
    · rw [h]; exact Rat.le_of_lt hx
    · rw [h, val_neg]; grind
  · subst hx
    rw [rnd_zero]
    exact .inr ⟨rfl, Rat.le_refl⟩
  · rw [rnd_pos hx]
    rcases put_ge (s := 1) aw_up ok (.inl rfl) hx with h | ⟨m, e, h, q⟩
    · exact .inl h
    · rw [h]
      refine .inr ⟨rfl, ?_⟩
      rw [val_one]; exact q
theorem fin_sg (h : v.fin = true) : v.sgI = 0 := by cases v <;> first | rfl | cases h
end
abbrev Iv := Option (Va × Va)
def ivD : Iv → D
  | none => .tup []
  | some (l, h) => .tup [vaD l, vaD h]
structure IvOk (F : Fm) (l h : Va) : Prop where
  lo : l.ok F
  ho : h.ok F
  ln : l ≠ .nan
  hn : h ≠ .nan
  l1 : l ≠ .inf 1
  h1 : h ≠ .inf (-1)
  le : F.rk l ≤ F.rk h
def Iv.ok (F : Fm) : Iv → Prop
  | none => True
  | some (l, h) => IvOk F l h
/-- values that are no intervals -/
inductive BadIv (F : Fm) : D → Prop where
  | non : BadIv F .non
  | lst {v : Va} : BadIv F (.lst [vaD v, vaD v])
  | one {v : Va} : BadIv F (.tup [vaD v])
  | nl {v : Va} (h : v.ok F) : BadIv F (.tup [vaD .nan, vaD v])
  | nr {v : Va} (h : v.ok F) : BadIv F (.tup [vaD v, vaD .nan])
  | up : BadIv F (.tup [vaD (.inf 1), vaD (.inf 1)])
  | down : BadIv F (.tup [vaD (.inf (-1)), vaD (.inf (-1))])
  | three {v : Va} : BadIv F (.tup [vaD v, vaD v, vaD v])
  | num {v : Va} (h : v.ok F) (hn : v ≠ .nan) (h1 : v ≠ .inf 1) : BadIv F (.tup [vaD v, vaD (.num 1 0 0)])
section
variable {Γ : List DSp} {xm : Nat → Nat → Option Bool} {ds : List D} {M : Mem} {Q : QD} {E : XD} {F G : Fm} {v u : Va} {md : Md} {x y : Rat} {W : WD} {s : Int} {k : Bool → Prop} {i j : Iv}
theorem iv_inj : ivD i = ivD j ↔ i = j := by
  rcases i with _ | ⟨a, b⟩ <;> rcases j with _ | ⟨c, d⟩ <;> simp [ivD]
@[simp] theorem iv_injs : (ivD i = ivD j) = (i = j) := propext iv_inj
theorem iv_tup (i : Iv) : ∃ xs, ivD i = .tup xs := by rcases i with _ | ⟨a, b⟩ <;> exact ⟨_, rfl⟩
theorem dat_va19 (v : Va) : datB 19 (vaD v) = true := by
  cases v <;> (simp only [vaD]; unfold datB; simp [datB]) <;> (try (first | (refine ⟨by decide +kernel, ?_⟩; simp [datB]) | decide +kernel))
theorem dat_iv (i : Iv) : datB 20 (ivD i) = true := by
  rcases i with _ | ⟨a, b⟩
  · rfl
  · show ([vaD a, vaD b].all (datB 19)) = true
    simp [dat_va19]
theorem eq_iv (h : k (decide (i = j))) : wEq (ivD i) (ivD j) M k := by
  obtain ⟨xs, e⟩ := iv_tup i
  have := dat_iv i
  rw [e] at this ⊢
  refine eq_dat (b := decide (i = j)) this (dat_iv j) ?_ h
  rw [← e]
  simp
@[simp] theorem eq_ivs : wEq (ivD i) (ivD j) M k = k (decide (i = j)) := by
  refine propext ⟨fun h => ?_, eq_iv⟩
  have h2 : wEq (ivD i) (ivD j) M fun b => b = decide (i = j) := eq_iv rfl
  obtain ⟨xs, e⟩ := iv_tup i
  rw [e] at h h2
  obtain ⟨b, h3, rfl⟩ := eq_two h h2
  exact h3
@[simp] theorem eq_iv0 : wEq (ivD i) (.tup []) M k = k (decide (i = none)) := eq_ivs (j := none)
theorem in_iv {ys : List Iv} (h : k (decide (i ∈ ys))) : wIn (ivD i) (.tup (ys.map ivD)) M k := by
  obtain ⟨xs, e⟩ := iv_tup i
  have := dat_iv i
  rw [e] at this ⊢
  refine in_dat (b := decide (i ∈ ys)) (ys := ys.map ivD) rfl (by simp) this ?_ ?_ h
  · rw [List.all_map]
    exact List.all_eq_true.mpr fun u _ => dat_iv u
  · rw [← e]
    simp
theorem in_ivs {ys : List Iv} : wIn (ivD i) (.tup (ys.map ivD)) M k = k (decide (i ∈ ys)) := by
  refine propext ⟨fun h => ?_, in_iv⟩
  have h2 : wIn (ivD i) (.tup (ys.map ivD)) M fun b => b = decide (i ∈ ys) := in_iv rfl
  obtain ⟨xs, e⟩ := iv_tup i
  rw [e] at h h2
  obtain ⟨b, h3, rfl⟩ := in_two h h2
  exact h3
@[simp] theorem in_iv0 : wIn (.tup []) (.tup [ivD i, ivD j]) M k = k (decide (i = none ∨ j = none)) := by
  have := in_ivs (M := M) (k := k) (i := none) (ys := [i, j])
  show wIn (ivD none) (.tup ([i, j].map ivD)) M k = _
  rw [this]
  congr 1
  simp only [List.mem_cons, List.not_mem_nil, or_false, eq_comm (a := (none : Iv))]
/-- how numbers stand -/
def cmpI (a b : Int) : Int := (if b < a then 1 else 0) - (if a < b then 1 else 0)
theorem cmpI_le (a b : Int) : cmpI a b ≤ 0 ↔ a ≤ b := by unfold cmpI; split <;> split <;> omega
theorem cmpI_ge (a b : Int) : 0 ≤ cmpI a b ↔ b ≤ a := by unfold cmpI; split <;> split <;> omega
def φ_compared : DSp := fun l M Q _ => match l with
  | [f, a, b] => onF (fun F => onV (fun u => onV (fun v => u.ok F ∧ v.ok F ∧ u ≠ .nan ∧ v ≠ .nan ∧ Q (.int (cmpI (F.rk u) (F.rk v))) M) b) a) f
  | _ => False
@[simp] theorem compared_s : φ_compared [fmD F, vaD u, vaD v] M Q E = (F.ok ∧ u.ok F ∧ v.ok F ∧ u ≠ .nan ∧ v ≠ .nan ∧ Q (.int (cmpI (F.rk u) (F.rk v))) M) := by simp [φ_compared]
theorem b_compared (g1 : Γ[40]? = some φ_rank) (h : φ_compared ds M Q E) : dSs Γ xm ir_compared (endW E) (endS Q) (startD 5 ds) M := by
  unfold φ_compared at h
  split at h
  · obtain ⟨F, rfl, ok, u, rfl, v, rfl, uo, vo, un, vn, h⟩ := h
    have en : D.tup [.str "nan"] = vaD .nan := rfl
    unfold ir_compared
    simp [startD, en, un, vn]
    unfold ir_compared_k4
    simp [g1, ok, uo, vo, un, vn]
    unfold ir_compared_k3
    unfold cmpI at h
    by_cases c1 : F.rk v < F.rk u
    · have c2 : ¬ F.rk u < F.rk v := by omega
      simp [c1, c2] at h ⊢
      exact ends_rt h
    · by_cases c2 : F.rk u < F.rk v
      · simp [c1, c2] at h ⊢
        exact ends_rt h
      · simp [c1, c2] at h ⊢
        exact ends_rt h
  · exact h.elim
def φ_is_interval : DSp := fun l M Q _ => match l with
  | [f, d] => onF (fun F => (∃ i, d = ivD i ∧ i.ok F ∧ Q (.bl true) M) ∨ (BadIv F d ∧ Q (.bl false) M)) f
  | _ => False
theorem interval_ok (ok : F.ok) (io : i.ok F) (h : Q (.bl true) M) : φ_is_interval [fmD F, ivD i] M Q E := ⟨F, rfl, ok, .inl ⟨i, rfl, io, h⟩⟩
theorem interval_bad {d : D} (ok : F.ok) (io : BadIv F d) (h : Q (.bl false) M) : φ_is_interval [fmD F, d] M Q E := ⟨F, rfl, ok, .inr ⟨io, h⟩⟩
/-- data that is no tuple is no empty tuple -/
theorem eq_non0 (h : k false) : wEq .non (.tup []) M k := ⟨.none, .tuple [], rfl, rfl, by decide +kernel, by decide +kernel, h⟩
end
end U
end
section
set_option maxHeartbeats 1000000
namespace U
open PySem PySem.Spec PyProof.Rows L2 DL
section
variable {Γ : List DSp} {xm : Nat → Nat → Option Bool} {ds : List D} {M : Mem} {Q : QD} {E : XD} {F G : Fm} {v u : Va} {md : Md} {x y : Rat} {W : WD} {s : Int} {k : Bool → Prop} {i j : Iv}
@[simp] theorem ty_iv : tyM M (ivD i) = some "tuple" := by rcases i with _ | ⟨a, b⟩ <;> rfl
theorem eq_lst0 {xs : List D} (hx : datB 20 (.lst xs) = true) (h : k false) : wEq (.lst xs) (.tup []) M k := by
  obtain ⟨p, a1, a2, a3⟩ := dat_py 20 _ hx
  obtain ⟨ps, rfl⟩ : ∃ ps, p = .list ps := by
    have : (pyDs xs).map PyData.list = some p := a1
    cases q : pyDs xs with
    | none => rw [q] at this; cases this
    | some ps => rw [q] at this; cases this; exact ⟨_, rfl⟩
  refine ⟨.list ps, .tuple [], a1, rfl, ?_, by decide +kernel, by simpa [PyData.eqv] using h⟩
  unfold SeqAt.shaped; rw [a2, decide_eq_true (by omega)]; rfl
theorem eq_tup0 {a : D} {xs : List D} (hx : datB 20 (.tup (a :: xs)) = true) (h : k false) : wEq (.tup (a :: xs)) (.tup []) M k :=
  eq_dat (b := false) hx rfl (by simp) h
/-- two values: an interval, or none -/
def ivB (F : Fm) (a b : Va) : Bool := if a = .num 1 0 0 ∨ b = .num 1 0 0 then false else if a = .nan ∨ b = .nan ∨ a = .inf 1 ∨ b = .inf (-1) then false else decide (F.rk a ≤ F.rk b)
theorem iv_two (g1 : Γ[37]? = some φ_is_value) (g2 : Γ[80]? = some φ_compared) (ok : F.ok) {a b : Va} {a2 : Option D} (ha : a.ok F) (hb : b.ok F ∨ b = .num 1 0 0) (h : Q (.bl (ivB F a b)) M) :
    dSs Γ xm ir_is_interval_k4 W (endS Q) [some (fmD F), some (.tup [vaD a, vaD b]), a2] M := by
  have ok0 : ∀ {v : Va}, v.ok F → v ≠ .num 1 0 0 := fun {v} vo z => by
    rw [z] at vo
    have := vo.2.2.2.1
    omega
  have en : D.tup [.str "nan"] = vaD .nan := rfl
  have ei : D.tup [.str "inf", .int 1] = vaD (.inf 1) := rfl
  have ei2 : D.tup [.str "inf", .int (-1)] = vaD (.inf (-1)) := rfl
  have inn : ∀ (M : Mem) (k : Bool → Prop), wIn (vaD .nan) (.tup [vaD a, vaD b]) M k = k (decide (Va.nan ∈ [a, b])) := fun M k => in_vas (ys := [a, b])
  unfold ir_is_interval_k4
  simp
  intro _ p hp
  refine lc_map (g := fun d => .bl (@decide (d ≠ vaD (.num 1 0 0)) (Classical.propDecidable _))) hp (fun _ => trivial) _ (fun d hd acc' kk hkk => ?_) (by simp [sizeLine]) ?_
  · unfold ir_is_interval_e1
    simp at hd
    rcases hd with rfl | rfl
    · simp [wipeD, g1, ok]
      refine .inl ⟨ha, ?_⟩
      simpa [ok0 ha] using hkk
    · simp [wipeD, g1, ok]
      rcases hb with hb | rfl
      · refine .inl ⟨hb, ?_⟩
        simpa [ok0 hb] using hkk
      · refine .inr ⟨rfl, ?_⟩
        simpa using hkk
  · unfold ivB at h
    rcases hb with hb | rfl
    · rw [if_neg (by simp [ok0 ha, ok0 hb])] at h
      simp [blsD, ok0 ha, ok0 hb]
      unfold ir_is_interval_k3
      simp [en, ei, ei2, inn]
      by_cases c1 : a = .nan ∨ b = .nan
      · rw [if_pos (by rcases c1 with c | c <;> simp [c])] at h
        have : Va.nan = a ∨ Va.nan = b := c1.elim (fun z => .inl z.symm) (fun z => .inr z.symm)
        simp [this]
        exact ends_rt h
      · have c1' : ¬ (Va.nan = a ∨ Va.nan = b) := fun z => c1 (z.elim (fun z => .inl z.symm) (fun z => .inr z.symm))
        simp only [not_or] at c1
        simp [c1']
        by_cases c2 : a = .inf 1
        · rw [if_pos (.inr (.inr (.inl c2)))] at h
          simp [c2]
          exact ends_rt h
        · by_cases c3 : b = .inf (-1)
          · rw [if_pos (.inr (.inr (.inr c3)))] at h
            simp [c2, c3]
            exact ends_rt h
          · rw [if_neg (by simp [c1.1, c1.2, c2, c3])] at h
            simp [c2, c3]
            unfold ir_is_interval_k2
            simp [g2, ok, ha, hb, c1.1, c1.2]
            refine ends_rt ?_
            rw [decide_eq_decide.mpr (cmpI_le (F.rk a) (F.rk b))]
            exact h
    · rw [if_pos (.inr rfl)] at h
      simp [blsD, ok0 ha]
      exact ends_rt h
theorem b_is_interval (g0 : Γ[28]? = some φ_look_at_format) (g1 : Γ[37]? = some φ_is_value) (g2 : Γ[80]? = some φ_compared) (h : φ_is_interval ds M Q E) : dSs Γ xm ir_is_interval (endW E) (endS Q) (startD 3 ds) M := by
  unfold φ_is_interval at h
  split at h
  case h_2 => exact h.elim
  obtain ⟨F, rfl, ok, h⟩ := h
  unfold ir_is_interval
  simp [startD, g0, ok]
  unfold ir_is_interval_k5
  have two : ∀ {a b : Va}, a.ok F → (b.ok F ∨ b = .num 1 0 0) → Q (.bl (ivB F a b)) M → dSs Γ xm (.cons (.ite (.cmp .Eq (.var 1) (.tup .nil)) (.cons (.ret (.blt .isinst (.cons (.var 1) (.cons (.cst (.ty "tuple")) .nil)))) .nil) .nil) ir_is_interval_k4) (endW E) (endS Q) [some (fmD F), some (.tup [vaD a, vaD b]), none] M := fun {a b} ha hb h => by
    simp
    refine eq_tup0 (by show ([vaD a, vaD b].all (datB 19)) = true; simp [dat_va19]) ?_
    simp
    exact iv_two g1 g2 ok ha hb h
  rcases h with ⟨i, rfl, io, h⟩ | ⟨hb, h⟩
  · rcases i with _ | ⟨a, b⟩
    · simp
      exact ends_rt h
    · refine two io.lo (.inl io.ho) ?_
      unfold ivB
      have n0 : ∀ {v : Va}, v.ok F → v ≠ .num 1 0 0 := fun {v} vo z => by
        rw [z] at vo
        have := vo.2.2.2.1
        omega
      rw [if_neg (by simp [n0 io.lo, n0 io.ho]), if_neg (by simp [io.ln, io.hn, io.l1, io.h1]), decide_eq_true io.le]
      exact h
  · cases hb with
    | non =>
      simp
      refine eq_non0 ?_
      simp
      unfold ir_is_interval_k4
      simp
      exact ends_rt h
    | @lst v =>
      simp
      refine eq_lst0 (by show ([vaD v, vaD v].all (datB 19)) = true; simp [dat_va19]) ?_
      simp
      unfold ir_is_interval_k4
      simp
      exact ends_rt h
    | @one v =>
      simp
      refine eq_tup0 (by show ([vaD v].all (datB 19)) = true; simp [dat_va19]) ?_
      simp
      unfold ir_is_interval_k4
      simp
      exact ends_rt h
    | @three v =>
      simp
      refine eq_tup0 (by show ([vaD v, vaD v, vaD v].all (datB 19)) = true; simp [dat_va19]) ?_
      simp
      unfold ir_is_interval_k4
      simp
      exact ends_rt h
    | nl ho => exact two trivial (.inl ho) (by unfold ivB; split <;> simpa using h)
    | nr ho => exact two ho (.inl trivial) (by unfold ivB; split <;> simpa using h)
    | up => exact two (.inl rfl) (.inl (.inl rfl)) (by unfold ivB; split <;> simpa using h)
    | down => exact two (.inr rfl) (.inl (.inr rfl)) (by unfold ivB; split <;> simpa using h)
    | num ho _ _ => exact two ho (.inr rfl) (by unfold ivB; rw [if_pos (.inr rfl)]; exact h)
def φ_look_at_interval : DSp := fun l M Q E => match l with
  | [f, d] => onF (fun F => (∃ i, d = ivD i ∧ i.ok F ∧ Q .non M) ∨ (BadIv F d ∧ E 0 [] M)) f
  | _ => False
theorem look_ok (ok : F.ok) (io : i.ok F) (h : Q .non M) : φ_look_at_interval [fmD F, ivD i] M Q E := ⟨F, rfl, ok, .inl ⟨i, rfl, io, h⟩⟩
theorem look_bad {d : D} (ok : F.ok) (io : BadIv F d) (h : E 0 [] M) : φ_look_at_interval [fmD F, d] M Q E := ⟨F, rfl, ok, .inr ⟨io, h⟩⟩
theorem b_look_at_interval (g : Γ[87]? = some φ_is_interval) (h : φ_look_at_interval ds M Q E) : dSs Γ xm ir_look_at_interval (endW E) (endS Q) (startD 2 ds) M := by
  unfold φ_look_at_interval at h
  split at h
  case h_2 => exact h.elim
  obtain ⟨F, rfl, ok, h⟩ := h
  unfold ir_look_at_interval
  simp [startD, g]
  rcases h with ⟨i, rfl, io, h⟩ | ⟨hb, h⟩
  · refine interval_ok ok io ?_
    simp
    exact ends_nx h
  · refine interval_bad ok hb ?_
    simp
    exact ends_w h
end
end U
end
section
set_option maxHeartbeats 1000000
namespace U
open PySem PySem.Spec PyProof.Rows L2 DL
theorem lcOut_nil {inner : D → List D → Mem → (List D → Mem → Prop) → Prop} {ch : Mem → Prop} {p : Addr} {QL : List D → Mem → Prop} {acc : List D} {M : Mem} : lcOut inner ch p QL [] acc M = (ch M ∧ M p = some (.lst acc) ∧ QL acc (M.del p)) := rfl
theorem lcOut_cons {inner : D → List D → Mem → (List D → Mem → Prop) → Prop} {ch : Mem → Prop} {p : Addr} {QL : List D → Mem → Prop} {acc ds : List D} {d : D} {M : Mem} : lcOut inner ch p QL (d :: ds) acc M = (ch M ∧ inner d acc M fun acc' M' => lcOut inner ch p QL ds acc' M') := rfl
theorem lcIn_nil {step : D → Mem → (D → Mem → Prop) → Prop} {ch : Mem → Prop} {p : Addr} {K : List D → Mem → Prop} {acc : List D} {M : Mem} : lcIn step ch p K [] acc M = (ch M ∧ K acc M) := rfl
theorem lcIn_cons {step : D → Mem → (D → Mem → Prop) → Prop} {ch : Mem → Prop} {p : Addr} {K : List D → Mem → Prop} {acc ds : List D} {d : D} {M : Mem} : lcIn step ch p K (d :: ds) acc M = (ch M ∧ step d M fun y M' => M' p = some (.lst acc) ∧ acc.length < sizeLine ∧ lcIn step ch p K ds (acc ++ [y]) (M'.put p (.lst (acc ++ [y])))) := rfl
def rgD (x y : Rat) : D := .tup [rt x, rt y]
def lo4 (a b c d : Rat) : Rat := [b, c, d].foldl least a
def hi4 (a b c d : Rat) : Rat := [b, c, d].foldl most a
section
variable {Γ : List DSp} {xm : Nat → Nat → Option Bool} {ds : List D} {M : Mem} {Q : QD} {E : XD} {F G : Fm} {v u : Va} {md : Md} {x y x1 x2 y1 y2 : Rat} {W : WD} {s : Int} {k : Bool → Prop} {i j : Iv}
theorem rg_inj {a b c d : Rat} : rgD a b = rgD c d ↔ a = c ∧ b = d := by simp [rgD]
@[simp] theorem idx_rg0 : wIdx (rgD x y) (.int 0) M Q = Q (rt x) M := rfl
@[simp] theorem idx_rg1 : wIdx (rgD x y) (.int 1) M Q = Q (rt y) M := rfl
@[simp] theorem it_rg : itM M (rgD x y) = some [rt x, rt y] := rfl
@[simp] theorem sq_rg : sqM M (rgD x y) = some [rt x, rt y] := rfl
@[simp] theorem chk_rg {ys : List D} : chk (rgD x y) ys M = True := rfl
@[simp] theorem non_rg : isNon (rgD x y) = false := rfl
/-- a contract about two ranges -/
def onRg (p : Rat → Rat → Prop) (d : D) : Prop := ∃ x y, d = rgD x y ∧ p x y
@[simp] theorem onRg_rg {p : Rat → Rat → Prop} : onRg p (rgD x y) = p x y := propext ⟨fun ⟨a, b, e, h⟩ => by rw [rg_inj] at e; obtain ⟨rfl, rfl⟩ := e; exact h, fun h => ⟨x, y, rfl, h⟩⟩
def φ_ends : DSp := fun l M Q _ => match l with
  | [.lst rows] => ∃ q qs, rows = (q :: qs).map rt ∧ (∀ x ∈ q :: qs, Sz 4000 x) ∧ qs.length < 4000000 ∧ Q (rgD (qs.foldl least q) (qs.foldl most q)) M
  | _ => False
theorem b_ends (g1 : Γ[14]? = some φ_least_of) (g2 : Γ[15]? = some φ_most_of) (h : φ_ends ds M Q E) : dSs Γ xm ir_ends (endW E) (endS Q) (startD 1 ds) M := by
  unfold φ_ends at h
  split at h
  case h_2 => exact h.elim
  obtain ⟨q, qs, rfl, hs, hl, h⟩ := h
  unfold ir_ends
  simp [startD, g1]
  refine ⟨q, qs, .inl rfl, hs, hl, ?_⟩
  simp [g2]
  exact ⟨q, qs, .inl rfl, hs, hl, ends_rt h⟩
def φ_sum_range : DSp := fun l M Q _ => match l with
  | [a, b] => onRg (fun x1 x2 => onRg (fun y1 y2 => Sz 4000 x1 ∧ Sz 4000 x2 ∧ Sz 4000 y1 ∧ Sz 4000 y2 ∧ Q (rgD (x1 + y1) (x2 + y2)) M) b) a
  | _ => False
@[simp] theorem sum_range_s : φ_sum_range [rgD x1 x2, rgD y1 y2] M Q E = (Sz 4000 x1 ∧ Sz 4000 x2 ∧ Sz 4000 y1 ∧ Sz 4000 y2 ∧ Q (rgD (x1 + y1) (x2 + y2)) M) := by simp [φ_sum_range]
theorem b_sum_range (g : Γ[5]? = some φ_plus) (h : φ_sum_range ds M Q E) : dSs Γ xm ir_sum_range (endW E) (endS Q) (startD 2 ds) M := by
  unfold φ_sum_range at h
  split at h
  case h_2 => exact h.elim
  obtain ⟨x1, x2, rfl, y1, y2, rfl, h1, h2, h3, h4, h⟩ := h
  unfold ir_sum_range
  simp [startD, g, h1, h2, h3, h4]
  exact ends_rt h
def φ_turned_range : DSp := fun l M Q _ => match l with
  | [a] => onRg (fun x1 x2 => Q (rgD (-x2) (-x1)) M) a
  | _ => False
@[simp] theorem turned_range_s : φ_turned_range [rgD x1 x2] M Q E = Q (rgD (-x2) (-x1)) M := by simp [φ_turned_range]
theorem b_turned_range (h : φ_turned_range ds M Q E) : dSs Γ xm ir_turned_range (endW E) (endS Q) (startD 1 ds) M := by
  unfold φ_turned_range at h
  split at h
  case h_2 => exact h.elim
  obtain ⟨x1, x2, rfl, h⟩ := h
  unfold ir_turned_range
  simp [startD]
  exact ends_rt h
def φ_product_range : DSp := fun l M Q _ => match l with
  | [a, b] => onRg (fun x1 x2 => onRg (fun y1 y2 => Sz 1900 x1 ∧ Sz 1900 x2 ∧ Sz 1900 y1 ∧ Sz 1900 y2 ∧ Q (rgD (lo4 (x1 * y1) (x1 * y2) (x2 * y1) (x2 * y2)) (hi4 (x1 * y1) (x1 * y2) (x2 * y1) (x2 * y2))) M) b) a
  | _ => False
@[simp] theorem product_range_s : φ_product_range [rgD x1 x2, rgD y1 y2] M Q E = (Sz 1900 x1 ∧ Sz 1900 x2 ∧ Sz 1900 y1 ∧ Sz 1900 y2 ∧ Q (rgD (lo4 (x1 * y1) (x1 * y2) (x2 * y1) (x2 * y2)) (hi4 (x1 * y1) (x1 * y2) (x2 * y1) (x2 * y2))) M) := by simp [φ_product_range]
theorem put_put_p {p : Addr} {a b : MO} {M : Mem} : (M.put p a).put p b = M.put p b := Mem.put_put
theorem b_product_range (g1 : Γ[7]? = some φ_times) (g2 : Γ[81]? = some φ_ends) (h : φ_product_range ds M Q E) : dSs Γ xm ir_product_range (endW E) (endS Q) (startD 4 ds) M := by
  unfold φ_product_range at h
  split at h
  case h_2 => exact h.elim
  obtain ⟨x1, x2, rfl, y1, y2, rfl, h1, h2, h3, h4, h⟩ := h
  have k1 := h1.mono (show 1900 ≤ 4000 by decide)
  have k2 := h2.mono (show 1900 ≤ 4000 by decide)
  have k3 := h3.mono (show 1900 ≤ 4000 by decide)
  have k4 := h4.mono (show 1900 ≤ 4000 by decide)
  unfold ir_product_range
  simp [startD]
  intro _ p hp
  unfold ir_product_range_e1
  simp -implicitDefEqProofs [lcOut_cons, lcOut_nil, lcIn_cons, lcIn_nil, wipeD, g1, k1, k2, k3, k4, Mem.put_same, put_put_p, Mem.del_put hp, sizeLine_eq]
  simp [g2]
  have q : ∀ {a b : Rat}, Sz 1900 a → Sz 1900 b → Sz 4000 (a * b) := fun ha hb => (ha.mul hb).mono (by decide)
  exact ⟨_, [_, _, _], rfl, by simp [q h1 h3, q h1 h4, q h2 h3, q h2 h4], by simp, ends_rt h⟩
def nought (y1 y2 : Rat) : Bool := decide (y1 ≤ 0) && decide (0 ≤ y2)
theorem num_le0 (x : Rat) : (x.num ≤ 0) = (x ≤ 0) := propext (by
  rw [Rat.le_iff]; simp)
theorem num_ge0 (x : Rat) : (0 ≤ x.num) = (0 ≤ x) := propext Rat.num_nonneg
def φ_has_nought : DSp := fun l M Q _ => match l with
  | [a] => onRg (fun x1 x2 => Q (.bl (nought x1 x2)) M) a
  | _ => False
@[simp] theorem has_nought_s : φ_has_nought [rgD x1 x2] M Q E = Q (.bl (nought x1 x2)) M := by simp [φ_has_nought]
theorem b_has_nought (h : φ_has_nought ds M Q E) : dSs Γ xm ir_has_nought (endW E) (endS Q) (startD 1 ds) M := by
  unfold φ_has_nought at h
  split at h
  case h_2 => exact h.elim
  obtain ⟨x1, x2, rfl, h⟩ := h
  unfold ir_has_nought
  unfold nought at h
  by_cases c : x1 ≤ 0
  · have c' : x1.num ≤ 0 := by rw [num_le0]; exact c
    simp [startD, c', c, num_ge0] at h ⊢
    exact ends_rt h
  · have c' : ¬ x1.num ≤ 0 := by rw [num_le0]; exact c
    simp [startD, c', c] at h ⊢
    exact ends_rt h
def φ_quotient_range : DSp := fun l M Q _ => match l with
  | [a, b] => onRg (fun x1 x2 => onRg (fun y1 y2 => nought y1 y2 = false ∧ y1 ≠ 0 ∧ y2 ≠ 0 ∧ Sz 1900 x1 ∧ Sz 1900 x2 ∧ Sz 1900 y1 ∧ Sz 1900 y2 ∧ Q (rgD (lo4 (x1 / y1) (x1 / y2) (x2 / y1) (x2 / y2)) (hi4 (x1 / y1) (x1 / y2) (x2 / y1) (x2 / y2))) M) b) a
  | _ => False
@[simp] theorem quotient_range_s : φ_quotient_range [rgD x1 x2, rgD y1 y2] M Q E = (nought y1 y2 = false ∧ y1 ≠ 0 ∧ y2 ≠ 0 ∧ Sz 1900 x1 ∧ Sz 1900 x2 ∧ Sz 1900 y1 ∧ Sz 1900 y2 ∧ Q (rgD (lo4 (x1 / y1) (x1 / y2) (x2 / y1) (x2 / y2)) (hi4 (x1 / y1) (x1 / y2) (x2 / y1) (x2 / y2))) M) := by simp [φ_quotient_range]
theorem Sz.inv {n : Nat} {y : Rat} (h : Sz n y) : Sz n y⁻¹ := by
  have h1 : y⁻¹ = Rat.divInt y.den y.num := Rat.inv_def y
  rw [h1]
  by_cases h0 : y.num = 0
  · rw [h0, Rat.divInt_zero]
    refine ⟨Nat.lt_of_le_of_lt (Nat.zero_le _) h.1, ?_⟩
    have := h.2
    have := y.den_pos
    show 1 < _
    have hn : n ≠ 0 := fun z => by subst z; simp at *; omega
    exact Nat.one_lt_two_pow hn
  · exact divInt_sz h0 (by rw [Int.natAbs_natCast]; exact h.2) h.1
theorem Sz.div {m n : Nat} {x y : Rat} (h1 : Sz m x) (h2 : Sz n y) : Sz (m + n) (x / y) := by rw [Rat.div_def]; exact h1.mul h2.inv
theorem b_quotient_range (g1 : Γ[8]? = some φ_over) (g2 : Γ[81]? = some φ_ends) (g3 : Γ[85]? = some φ_has_nought) (h : φ_quotient_range ds M Q E) : dSs Γ xm ir_quotient_range (endW E) (endS Q) (startD 4 ds) M := by
  unfold φ_quotient_range at h
  split at h
  case h_2 => exact h.elim
  obtain ⟨x1, x2, rfl, y1, y2, rfl, hn, n1, n2, h1, h2, h3, h4, h⟩ := h
  have k1 := h1.mono (show 1900 ≤ 4000 by decide)
  have k2 := h2.mono (show 1900 ≤ 4000 by decide)
  have k3 := h3.mono (show 1900 ≤ 4000 by decide)
  have k4 := h4.mono (show 1900 ≤ 4000 by decide)
  unfold ir_quotient_range
  simp [startD, g3, hn]
  intro _ p hp
  unfold ir_quotient_range_e1
  simp -implicitDefEqProofs [lcOut_cons, lcOut_nil, lcIn_cons, lcIn_nil, wipeD, g1, over_s n1, over_s n2, k1, k2, k3, k4, Mem.put_same, put_put_p, Mem.del_put hp, sizeLine_eq]
  simp [g2]
  have q : ∀ {a b : Rat}, Sz 1900 a → Sz 1900 b → Sz 4000 (a / b) := fun ha hb => (ha.div hb).mono (by decide)
  exact ⟨_, [_, _, _], rfl, by simp [q h1 h3, q h1 h4, q h2 h3, q h2 h4], by simp, ends_rt h⟩
def φ_whole_line : DSp := fun l M Q _ => match l with
  | [] => Q (ivD (some (.inf (-1), .inf 1))) M
  | _ => False
@[simp] theorem whole_line_s : φ_whole_line [] M Q E = Q (ivD (some (.inf (-1), .inf 1))) M := rfl
theorem b_whole_line (h : φ_whole_line ds M Q E) : dSs Γ xm ir_whole_line (endW E) (endS Q) (startD 0 ds) M := by
  unfold φ_whole_line at h
  split at h
  case h_2 => exact h.elim
  unfold ir_whole_line
  simp [startD]
  exact ends_rt h
/-- the least interval around a range -/
def Fm.ard (F : Fm) (x y : Rat) : Iv := some ((F.rnd .down x 1).1, (F.rnd .up y 1).1)
def φ_around : DSp := fun l M Q E => match l with
  | [f, a, b] => onF (fun F => onR (fun x => onR (fun y => Sz 3800 x ∧ Sz 3800 y ∧ ((x ≤ y ∧ Nm (ab x) ∧ Nm (ab y) ∧ Q (ivD (F.ard x y)) M) ∨ (y < x ∧ E 0 [] M))) b) a) f
  | _ => False
theorem around_ok (ok : F.ok) (h1 : Sz 3800 x) (h2 : Sz 3800 y) (hl : x ≤ y) (n1 : Nm (ab x)) (n2 : Nm (ab y)) (h : Q (ivD (F.ard x y)) M) : φ_around [fmD F, rt x, rt y] M Q E := ⟨F, rfl, ok, x, rfl, y, rfl, h1, h2, .inl ⟨hl, n1, n2, h⟩⟩
theorem around_bad (ok : F.ok) (h1 : Sz 3800 x) (h2 : Sz 3800 y) (hl : y < x) (h : E 0 [] M) : φ_around [fmD F, rt x, rt y] M Q E := ⟨F, rfl, ok, x, rfl, y, rfl, h1, h2, .inr ⟨hl, h⟩⟩
theorem rounded3_down : φ_rounded3 [fmD F, .str "down", rt x] M Q E = (F.ok ∧ Nm (ab x) ∧ Q (resD (F.rnd .down x 1)) M) := rounded3_s (md := .down) (E := E)
theorem rounded3_up : φ_rounded3 [fmD F, .str "up", rt x] M Q E = (F.ok ∧ Nm (ab x) ∧ Q (resD (F.rnd .up x 1)) M) := rounded3_s (md := .up) (E := E)
theorem b_around (g1 : Γ[12]? = some φ_below) (g2 : Γ[51]? = some φ_rounded3) (h : φ_around ds M Q E) : dSs Γ xm ir_around (endW E) (endS Q) (startD 3 ds) M := by
  unfold φ_around at h
  split at h
  case h_2 => exact h.elim
  obtain ⟨F, rfl, ok, x, rfl, y, rfl, s1, s2, h⟩ := h
  have k1 := s1.mono (show 3800 ≤ 4000 by decide)
  have k2 := s2.mono (show 3800 ≤ 4000 by decide)
  unfold ir_around
  rcases h with ⟨hl, n1, n2, h⟩ | ⟨hl, h⟩
  · have hl' : ¬ y < x := Rat.not_lt.mpr hl
    simp [startD, g1, k1, k2, hl', g2, rounded3_down, rounded3_up, ok, n1, n2]
    exact ends_rt h
  · simp [startD, g1, k1, k2, hl]
    exact ends_w h
end
end U
end
section
set_option maxHeartbeats 1000000
namespace U
open PySem PySem.Spec PyProof.Rows L2 DL
def Fm.hasB (F : Fm) : Iv → Rat → Bool
  | none, _ => false
  | some (l, h), x => (!l.fin || decide (l.val F ≤ x)) && (!h.fin || decide (x ≤ h.val F))
def Fm.rg (F : Fm) : Iv → Option (Rat × Rat)
  | none => none
  | some (l, h) => if l.fin = true ∧ h.fin = true then some (l.val F, h.val F) else none
def rgO : Option (Rat × Rat) → D
  | none => .non
  | some (x, y) => rgD x y
def Fm.pick (F : Fm) (a b : Va) : Va := if F.rk b ≤ F.rk a then a else b
def Fm.pickL (F : Fm) (a b : Va) : Va := if F.rk a ≤ F.rk b then a else b
def Fm.met (F : Fm) : Iv → Iv → Iv
  | some (a, b), some (c, d) => if F.rk (F.pick a c) ≤ F.rk (F.pickL b d) then some (F.pick a c, F.pickL b d) else none
  | _, _ => none
def Fm.hull (F : Fm) : Iv → Iv → Iv
  | some (a, b), some (c, d) => some (F.pickL a c, F.pick b d)
  | none, j => j
  | i, none => i
def Fm.inside (F : Fm) : Iv → Iv → Bool
  | none, _ => true
  | some (a, b), some (c, d) => decide (F.rk c ≤ F.rk a) && decide (F.rk b ≤ F.rk d)
  | _, _ => false
inductive Wd where
  | add | sub | mul | div
deriving DecidableEq
def Wd.nm : Wd → Str
  | .add => "add"
  | .sub => "sub"
  | .mul => "mul"
  | .div => "div"
def Wd.lo : Wd → Rat → Rat → Rat → Rat → Rat
  | .add, x1, x2, y1, y2 => x1 + y1
  | .sub, x1, x2, y1, y2 => x1 + -y2
  | .mul, x1, x2, y1, y2 => lo4 (x1 * y1) (x1 * y2) (x2 * y1) (x2 * y2)
  | .div, x1, x2, y1, y2 => lo4 (x1 / y1) (x1 / y2) (x2 / y1) (x2 / y2)
def Wd.hi : Wd → Rat → Rat → Rat → Rat → Rat
  | .add, x1, x2, y1, y2 => x2 + y2
  | .sub, x1, x2, y1, y2 => x2 + -y1
  | .mul, x1, x2, y1, y2 => hi4 (x1 * y1) (x1 * y2) (x2 * y1) (x2 * y2)
  | .div, x1, x2, y1, y2 => hi4 (x1 / y1) (x1 / y2) (x2 / y1) (x2 / y2)
def wholeI : Iv := some (.inf (-1), .inf 1)
def Fm.made (F : Fm) (o : Wd) (i j : Iv) : Iv := if i = none ∨ j = none then none else match F.rg i, F.rg j with
  | a, some (y1, y2) => if o = .div ∧ y1 = 0 ∧ y2 = 0 then none else match a with
    | none => wholeI
    | some (x1, x2) => if o = .div ∧ nought y1 y2 = true then wholeI else F.ard (o.lo x1 x2 y1 y2) (o.hi x1 x2 y1 y2)
  | _, none => wholeI
section
variable {Γ : List DSp} {xm : Nat → Nat → Option Bool} {ds : List D} {M : Mem} {Q : QD} {E : XD} {F G : Fm} {v u : Va} {md : Md} {x y x1 x2 y1 y2 : Rat} {W : WD} {s : Int} {k : Bool → Prop} {i j : Iv}
/-- sizes of what is reckoned with formats as they are drawn -/
theorem wd_sz (wd : F.wd) (vo : v.ok F) : Sz 200 (v.val F) := by
  have ok := wd.ok
  have h1 := wd.l1; have h2 := wd.h2; have lh := wd.lh; have tl := wd.top_lt
  have := exD_pos (v := v) ok
  rw [← ex_val ok]
  refine divInt_sz (by omega) ?_ ?_
  · cases v with
    | num s m e =>
      obtain ⟨hs, l1, l2, l3, l4, l5⟩ := vo
      have hm : (s * (m : Int)).natAbs < 2 ^ 45 := by
        rw [Int.natAbs_mul, sgn_abs hs]
        omega
      exact mul_abs (m := 45) (n := 141) hm (bpow_lt ok.b_lt (by omega)) (by omega)
    | _ => exact Nat.pow_pos (by decide)
  · cases v with
    | num s m e =>
      obtain ⟨hs, l1, l2, l3, l4, l5⟩ := vo
      exact bpow_lt ok.b_lt (by omega)
    | _ => exact Nat.one_lt_two_pow (by decide)
theorem Sz.add {x y : Rat} {m n : Nat} (h1 : Sz m x) (h2 : Sz n y) : Sz (m + n + 1) (x + y) := by
  rw [← add_div]
  refine divInt_sz (den_mul_ne x y) ?_ ?_
  · have a1 : (x.num * y.den).natAbs < 2 ^ (m + n) := by
      rw [Int.natAbs_mul]; exact U.mul_lt h1.1 (by simpa using h2.2)
    have a2 : (y.num * x.den).natAbs < 2 ^ (m + n) := by
      rw [Int.natAbs_mul, Nat.mul_comm]; exact U.mul_lt (by simpa using h1.2) h2.1
    have : 2 ^ (m + n + 1) = 2 ^ (m + n) + 2 ^ (m + n) := by rw [Nat.pow_succ]; omega
    omega
  · rw [Int.natAbs_mul]
    have := U.mul_lt (m := m) (n := n) (a := (x.den : Int).natAbs) (b := (y.den : Int).natAbs) (by simpa using h1.2) (by simpa using h2.2)
    exact pow_mono this (by omega)
theorem Sz.nm {x : Rat} (h : Sz 900 x) : Nm (ab x) := by
  refine ⟨⟨?_, ?_⟩, ?_⟩
  · rw [ab_num, Int.natAbs_natCast]; exact pow_mono h.1 (by decide)
  · rw [ab_den]; exact pow_mono h.2 (by decide)
  · have h1 := le_num (ab_nn x)
    rw [ab_num] at h1
    have h2 : (((x.num.natAbs : Nat) : Int) : Rat) < pw (2 : Nat) (900 : Nat) := by
      rw [pw_nat, Rat.intCast_lt_intCast]
      have := h.1
      omega
    exact rle_lt h1 h2
theorem lo4_sz {a b c d : Rat} {n : Nat} (h1 : Sz n a) (h2 : Sz n b) (h3 : Sz n c) (h4 : Sz n d) : Sz n (lo4 a b c d) := fold_sz least_or _ _ h1 (by simp [h2, h3, h4])
theorem hi4_sz {a b c d : Rat} {n : Nat} (h1 : Sz n a) (h2 : Sz n b) (h3 : Sz n c) (h4 : Sz n d) : Sz n (hi4 a b c d) := fold_sz most_or _ _ h1 (by simp [h2, h3, h4])
theorem lo_sz {o : Wd} (h1 : Sz 200 x1) (h2 : Sz 200 x2) (h3 : Sz 200 y1) (h4 : Sz 200 y2) : Sz 401 (o.lo x1 x2 y1 y2) := by
  cases o
  · exact h1.add h3
  · exact h1.add h4.neg
  · exact (lo4_sz (h1.mul h3) (h1.mul h4) (h2.mul h3) (h2.mul h4)).mono (by decide)
  · exact (lo4_sz (h1.div h3) (h1.div h4) (h2.div h3) (h2.div h4)).mono (by decide)
theorem hi_sz {o : Wd} (h1 : Sz 200 x1) (h2 : Sz 200 x2) (h3 : Sz 200 y1) (h4 : Sz 200 y2) : Sz 401 (o.hi x1 x2 y1 y2) := by
  cases o
  · exact h2.add h4
  · exact h2.add h3.neg
  · exact (hi4_sz (h1.mul h3) (h1.mul h4) (h2.mul h3) (h2.mul h4)).mono (by decide)
  · exact (hi4_sz (h1.div h3) (h1.div h4) (h2.div h3) (h2.div h4)).mono (by decide)
theorem lo4_le (a b c d : Rat) : lo4 a b c d ≤ a ∧ lo4 a b c d ≤ b ∧ lo4 a b c d ≤ c ∧ lo4 a b c d ≤ d := by
  unfold lo4
  simp only [List.foldl, least]
  (repeat' split) <;> grind
theorem hi4_ge (a b c d : Rat) : a ≤ hi4 a b c d ∧ b ≤ hi4 a b c d ∧ c ≤ hi4 a b c d ∧ d ≤ hi4 a b c d := by
  unfold hi4
  simp only [List.foldl, most]
  (repeat' split) <;> grind
theorem lo_hi {o : Wd} (hx : x1 ≤ x2) (hy : y1 ≤ y2) : o.lo x1 x2 y1 y2 ≤ o.hi x1 x2 y1 y2 := by
  cases o
  · show x1 + y1 ≤ x2 + y2; grind
  · show x1 + -y2 ≤ x2 + -y1; grind
  · exact Rat.le_trans (lo4_le _ _ _ _).1 (hi4_ge _ _ _ _).1
  · exact Rat.le_trans (lo4_le _ _ _ _).1 (hi4_ge _ _ _ _).1
theorem iv_val (ok : F.ok) {a b : Va} (h : IvOk F a b) (ha : a.fin = true) (hb : b.fin = true) : a.val F ≤ b.val F := by
  have := (rk_le ok h.lo h.ho h.ln h.hn).mp h.le
  unfold Va.le at this
  rw [if_neg (by rw [fin_sg ha, fin_sg hb]; simp)] at this
  exact this
def φ_has : DSp := fun l M Q E => match l with
  | [f, d, a] => onF (fun F => onR (fun x => Sz 4000 x ∧ ((∃ i, d = ivD i ∧ i.ok F ∧ Q (.bl (F.hasB i x)) M) ∨ (BadIv F d ∧ E 0 [] M))) a) f
  | _ => False
theorem has_ok (ok : F.ok) (hs : Sz 4000 x) (io : i.ok F) (h : Q (.bl (F.hasB i x)) M) : φ_has [fmD F, ivD i, rt x] M Q E := ⟨F, rfl, ok, x, rfl, hs, .inl ⟨i, rfl, io, h⟩⟩
theorem has_bad {d : D} (ok : F.ok) (hs : Sz 4000 x) (io : BadIv F d) (h : E 0 [] M) : φ_has [fmD F, d, rt x] M Q E := ⟨F, rfl, ok, x, rfl, hs, .inr ⟨io, h⟩⟩
theorem val_sz4 (ok : F.ok) (vo : v.ok F) : Sz 4000 (v.val F) := (val_sz ok vo).mono (by decide)
theorem b_has (g1 : Γ[88]? = some φ_look_at_interval) (g2 : Γ[43]? = some φ_is_finite) (g3 : Γ[12]? = some φ_below) (g4 : Γ[39]? = some φ_exact) (g5 : Γ[13]? = some φ_at_most) (h : φ_has ds M Q E) : dSs Γ xm ir_has (endW E) (endS Q) (startD 5 ds) M := by
  unfold φ_has at h
  split at h
  case h_2 => exact h.elim
  obtain ⟨F, rfl, ok, x, rfl, hs, h⟩ := h
  unfold ir_has
  simp [startD, g1]
  rcases h with ⟨i, rfl, io, h⟩ | ⟨hb, h⟩
  · refine look_ok ok io ?_
    unfold ir_has_k4
    rcases i with _ | ⟨a, b⟩
    · simp
      exact ends_rt h
    · have io : IvOk F a b := io
      have za := val_sz4 ok io.lo
      have zb := val_sz4 ok io.ho
      simp
      unfold ir_has_k3
      have e1 : sqM M (ivD (some (a, b))) = some [vaD a, vaD b] := rfl
      simp [e1]
      have tail : Q (.bl (!b.fin || decide (x ≤ b.val F))) M → dSs Γ xm ir_has_k1 (endW E) (endS Q) [some (fmD F), some (ivD (some (a, b))), some (rt x), some (vaD a), some (vaD b)] M := fun h => by
        unfold ir_has_k1
        cases hf : b.fin with
        | false => simp [g2, hf] at h ⊢; exact ends_rt h
        | true => simp [g2, hf, g4, exact_s hf, ok, io.ho, g5, hs, zb] at h ⊢; exact ends_rt h
      have hh : F.hasB (some (a, b)) x = ((!a.fin || decide (a.val F ≤ x)) && (!b.fin || decide (x ≤ b.val F))) := rfl
      rw [hh] at h
      unfold ir_has_k2
      cases hf : a.fin with
      | false =>
        rw [hf] at h
        simp [g2, hf]
        exact tail (by simpa using h)
      | true =>
        rw [hf] at h
        by_cases c : x < a.val F
        · have c' : ¬ a.val F ≤ x := Rat.not_le.mpr c
          simp [c'] at h
          simp [g2, hf, g4, exact_s hf, ok, io.lo, g3, hs, za, c]
          exact ends_rt h
        · have c' : a.val F ≤ x := Rat.not_lt.mp c
          simp [c'] at h
          simp [g2, hf, g4, exact_s hf, ok, io.lo, g3, hs, za, c]
          exact tail h
  · exact look_bad ok hb (ends_w h)
end
end U
end
section
set_option maxHeartbeats 1000000
namespace U
open PySem PySem.Spec PyProof.Rows L2 DL
section
variable {Γ : List DSp} {xm : Nat → Nat → Option Bool} {ds : List D} {M : Mem} {Q : QD} {E : XD} {F G : Fm} {v u : Va} {md : Md} {x y x1 x2 y1 y2 : Rat} {W : WD} {s : Int} {k : Bool → Prop} {i j : Iv} {a b c d : Va}
theorem idx_iv0 : wIdx (ivD (some (a, b))) (.int 0) M Q = Q (vaD a) M := rfl
theorem idx_iv1 : wIdx (ivD (some (a, b))) (.int 1) M Q = Q (vaD b) M := rfl
theorem iv_fold : D.tup [vaD a, vaD b] = ivD (some (a, b)) := rfl
theorem iv_fold0 : D.tup [] = ivD none := rfl
def φ_range_in : DSp := fun l M Q _ => match l with
  | [f, d] => onF (fun F => ∃ i, d = ivD i ∧ i.ok F ∧ Q (rgO (F.rg i)) M) f
  | _ => False
theorem range_ok (ok : F.ok) (io : i.ok F) (h : Q (rgO (F.rg i)) M) : φ_range_in [fmD F, ivD i] M Q E := ⟨F, rfl, ok, i, rfl, io, h⟩
theorem b_range_in (g1 : Γ[43]? = some φ_is_finite) (g2 : Γ[39]? = some φ_exact) (h : φ_range_in ds M Q E) : dSs Γ xm ir_range_in (endW E) (endS Q) (startD 2 ds) M := by
  unfold φ_range_in at h
  split at h
  case h_2 => exact h.elim
  obtain ⟨F, rfl, ok, i, rfl, io, h⟩ := h
  unfold ir_range_in
  rcases i with _ | ⟨a, b⟩
  · simp [startD]
    exact ends_rt h
  · have io : IvOk F a b := io
    have hh : F.rg (some (a, b)) = if a.fin = true ∧ b.fin = true then some (a.val F, b.val F) else none := rfl
    rw [hh] at h
    cases ha : a.fin with
    | false =>
      simp [ha] at h
      simp [startD, idx_iv0, idx_iv1, g1, ha]
      exact ends_rt h
    | true =>
      cases hb : b.fin with
      | false =>
        simp [ha, hb] at h
        simp [startD, idx_iv0, idx_iv1, g1, ha, hb]
        exact ends_rt h
      | true =>
        simp [ha, hb] at h
        simp [startD, idx_iv0, idx_iv1, g1, ha, hb, g2, exact_s ha, exact_s hb, ok, io.lo, io.ho]
        exact ends_rt h
/-- two intervals are looked at -/
def onIv (F : Fm) (d1 d2 : D) (M : Mem) (E : XD) (p : Iv → Iv → Prop) : Prop := (∃ i, d1 = ivD i ∧ i.ok F ∧ ((∃ j, d2 = ivD j ∧ j.ok F ∧ p i j) ∨ (BadIv F d2 ∧ E 0 [] M)))
theorem pick_ok (ha : a.ok F) (hb : b.ok F) : (F.pick a b).ok F := by unfold Fm.pick; split <;> assumption
theorem pickL_ok (ha : a.ok F) (hb : b.ok F) : (F.pickL a b).ok F := by unfold Fm.pickL; split <;> assumption
theorem pick_or (F : Fm) (a b : Va) : F.pick a b = a ∨ F.pick a b = b := by unfold Fm.pick; split <;> simp
theorem pickL_or (F : Fm) (a b : Va) : F.pickL a b = a ∨ F.pickL a b = b := by unfold Fm.pickL; split <;> simp
def φ_met : DSp := fun l M Q E => match l with
  | [f, d1, d2] => onF (fun F => onIv F d1 d2 M E fun i j => Q (ivD (F.met i j)) M) f
  | _ => False
theorem met_ok (ok : F.ok) (io : i.ok F) (jo : j.ok F) (h : Q (ivD (F.met i j)) M) : φ_met [fmD F, ivD i, ivD j] M Q E := ⟨F, rfl, ok, i, rfl, io, .inl ⟨j, rfl, jo, h⟩⟩
theorem met_bad {d : D} (ok : F.ok) (io : i.ok F) (jo : BadIv F d) (h : E 0 [] M) : φ_met [fmD F, ivD i, d] M Q E := ⟨F, rfl, ok, i, rfl, io, .inr ⟨jo, h⟩⟩
theorem ge_dec {p q : Int} : decide (0 ≤ cmpI p q) = decide (q ≤ p) := decide_eq_decide.mpr (cmpI_ge p q)
theorem le_dec {p q : Int} : decide (cmpI p q ≤ 0) = decide (p ≤ q) := decide_eq_decide.mpr (cmpI_le p q)
theorem b_met (g1 : Γ[88]? = some φ_look_at_interval) (g2 : Γ[80]? = some φ_compared) (h : φ_met ds M Q E) : dSs Γ xm ir_met (endW E) (endS Q) (startD 5 ds) M := by
  unfold φ_met at h
  split at h
  case h_2 => exact h.elim
  obtain ⟨F, rfl, ok, i, rfl, io, h⟩ := h
  unfold ir_met
  simp [startD, g1]
  refine look_ok ok io ?_
  unfold ir_met_k5
  simp [g1]
  rcases h with ⟨j, rfl, jo, h⟩ | ⟨hb, h⟩
  case inr => exact look_bad ok hb (ends_w h)
  refine look_ok ok jo ?_
  unfold ir_met_k4
  by_cases c : i = none ∨ j = none
  · have e : F.met i j = none := by rcases c with rfl | rfl <;> first | rfl | (rcases i with _ | ⟨a, b⟩ <;> rfl)
    rw [e] at h
    simp [c]
    exact ends_rt h
  · simp [c]
    rcases i with _ | ⟨a, b⟩
    · exact absurd (.inl rfl) c
    rcases j with _ | ⟨c', d⟩
    · exact absurd (.inr rfl) c
    have io : IvOk F a b := io
    have jo : IvOk F c' d := jo
    have hh : F.met (some (a, b)) (some (c', d)) = if F.rk (F.pick a c') ≤ F.rk (F.pickL b d) then some (F.pick a c', F.pickL b d) else none := rfl
    rw [hh] at h
    have n1 : F.pick a c' ≠ .nan := (pick_or F a c').elim (fun z => by rw [z]; exact io.ln) (fun z => by rw [z]; exact jo.ln)
    have n2 : F.pickL b d ≠ .nan := (pickL_or F b d).elim (fun z => by rw [z]; exact io.hn) (fun z => by rw [z]; exact jo.hn)
    have o1 := pick_ok io.lo jo.lo
    have o2 := pickL_ok io.ho jo.ho
    have t1 : dSs Γ xm ir_met_k1 (endW E) (endS Q) [some (fmD F), some (ivD (some (a, b))), some (ivD (some (c', d))), some (vaD (F.pick a c')), some (vaD (F.pickL b d))] M := by
      unfold ir_met_k1
      simp [g2, ok, o1, o2, n1, n2]
      by_cases q : F.rk (F.pick a c') ≤ F.rk (F.pickL b d)
      · rw [if_pos q] at h
        simp [(cmpI_le _ _).mpr q]
        exact ends_rt h
      · rw [if_neg q] at h
        have q' : ¬ cmpI (F.rk (F.pick a c')) (F.rk (F.pickL b d)) ≤ 0 := fun z => q ((cmpI_le _ _).mp z)
        simp [q']
        exact ends_rt h
    have t2 : dSs Γ xm ir_met_k2 (endW E) (endS Q) [some (fmD F), some (ivD (some (a, b))), some (ivD (some (c', d))), some (vaD (F.pick a c')), none] M := by
      unfold ir_met_k2
      simp [idx_iv1, g2, ok, io.ho, jo.ho, io.hn, jo.hn]
      unfold Fm.pickL at t1
      by_cases q : F.rk b ≤ F.rk d
      · rw [if_pos q] at t1
        simp [(cmpI_le _ _).mpr q]
        exact t1
      · rw [if_neg q] at t1
        have q' : ¬ cmpI (F.rk b) (F.rk d) ≤ 0 := fun z => q ((cmpI_le _ _).mp z)
        simp [q']
        exact t1
    unfold ir_met_k3
    simp [idx_iv0, g2, ok, io.lo, jo.lo, io.ln, jo.ln]
    unfold Fm.pick at t2
    by_cases q : F.rk c' ≤ F.rk a
    · rw [if_pos q] at t2
      simp [(cmpI_ge _ _).mpr q]
      exact t2
    · rw [if_neg q] at t2
      have q' : ¬ 0 ≤ cmpI (F.rk a) (F.rk c') := fun z => q ((cmpI_ge _ _).mp z)
      simp [q']
      exact t2
def φ_hull : DSp := fun l M Q E => match l with
  | [f, d1, d2] => onF (fun F => onIv F d1 d2 M E fun i j => Q (ivD (F.hull i j)) M) f
  | _ => False
theorem hull_ok (ok : F.ok) (io : i.ok F) (jo : j.ok F) (h : Q (ivD (F.hull i j)) M) : φ_hull [fmD F, ivD i, ivD j] M Q E := ⟨F, rfl, ok, i, rfl, io, .inl ⟨j, rfl, jo, h⟩⟩
theorem b_hull (g1 : Γ[88]? = some φ_look_at_interval) (g2 : Γ[80]? = some φ_compared) (h : φ_hull ds M Q E) : dSs Γ xm ir_hull (endW E) (endS Q) (startD 5 ds) M := by
  unfold φ_hull at h
  split at h
  case h_2 => exact h.elim
  obtain ⟨F, rfl, ok, i, rfl, io, h⟩ := h
  unfold ir_hull
  simp [startD, g1]
  refine look_ok ok io ?_
  unfold ir_hull_k5
  simp [g1]
  rcases h with ⟨j, rfl, jo, h⟩ | ⟨hb, h⟩
  case inr => exact look_bad ok hb (ends_w h)
  refine look_ok ok jo ?_
  unfold ir_hull_k4
  rcases i with _ | ⟨a, b⟩
  · have e : F.hull none j = j := by rcases j with _ | ⟨c, d⟩ <;> rfl
    rw [e] at h
    simp
    exact ends_rt h
  · rcases j with _ | ⟨c', d⟩
    · have e : F.hull (some (a, b)) none = some (a, b) := rfl
      rw [e] at h
      simp
      exact ends_rt h
    · have io : IvOk F a b := io
      have jo : IvOk F c' d := jo
      have hh : F.hull (some (a, b)) (some (c', d)) = some (F.pickL a c', F.pick b d) := rfl
      rw [hh] at h
      simp
      have t2 : dSs Γ xm ir_hull_k2 (endW E) (endS Q) [some (fmD F), some (ivD (some (a, b))), some (ivD (some (c', d))), some (vaD (F.pickL a c')), none] M := by
        unfold ir_hull_k2
        simp [idx_iv1, g2, ok, io.ho, jo.ho, io.hn, jo.hn]
        unfold Fm.pick at h
        by_cases q : F.rk d ≤ F.rk b
        · rw [if_pos q] at h
          simp [(cmpI_ge _ _).mpr q]
          unfold ir_hull_k1
          simp
          exact ends_rt h
        · rw [if_neg q] at h
          have q' : ¬ 0 ≤ cmpI (F.rk b) (F.rk d) := fun z => q ((cmpI_ge _ _).mp z)
          simp [q']
          unfold ir_hull_k1
          simp
          exact ends_rt h
      unfold ir_hull_k3
      simp [idx_iv0, g2, ok, io.lo, jo.lo, io.ln, jo.ln]
      unfold Fm.pickL at t2
      by_cases q : F.rk a ≤ F.rk c'
      · rw [if_pos q] at t2
        simp [(cmpI_le _ _).mpr q]
        exact t2
      · rw [if_neg q] at t2
        have q' : ¬ cmpI (F.rk a) (F.rk c') ≤ 0 := fun z => q ((cmpI_le _ _).mp z)
        simp [q']
        exact t2
def φ_is_inside : DSp := fun l M Q E => match l with
  | [f, d1, d2] => onF (fun F => onIv F d1 d2 M E fun i j => Q (.bl (F.inside i j)) M) f
  | _ => False
theorem inside_ok (ok : F.ok) (io : i.ok F) (jo : j.ok F) (h : Q (.bl (F.inside i j)) M) : φ_is_inside [fmD F, ivD i, ivD j] M Q E := ⟨F, rfl, ok, i, rfl, io, .inl ⟨j, rfl, jo, h⟩⟩
theorem b_is_inside (g1 : Γ[88]? = some φ_look_at_interval) (g2 : Γ[80]? = some φ_compared) (h : φ_is_inside ds M Q E) : dSs Γ xm ir_is_inside (endW E) (endS Q) (startD 3 ds) M := by
  unfold φ_is_inside at h
  split at h
  case h_2 => exact h.elim
  obtain ⟨F, rfl, ok, i, rfl, io, h⟩ := h
  unfold ir_is_inside
  simp [startD, g1]
  refine look_ok ok io ?_
  unfold ir_is_inside_k3
  simp [g1]
  rcases h with ⟨j, rfl, jo, h⟩ | ⟨hb, h⟩
  case inr => exact look_bad ok hb (ends_w h)
  refine look_ok ok jo ?_
  unfold ir_is_inside_k2
  rcases i with _ | ⟨a, b⟩
  · have e : F.inside none j = true := by rcases j with _ | ⟨c, d⟩ <;> rfl
    rw [e] at h
    simp
    exact ends_rt h
  · simp
    unfold ir_is_inside_k1
    rcases j with _ | ⟨c', d⟩
    · have e : F.inside (some (a, b)) none = false := rfl
      rw [e] at h
      simp
      exact ends_rt h
    · have io : IvOk F a b := io
      have jo : IvOk F c' d := jo
      have hh : F.inside (some (a, b)) (some (c', d)) = (decide (F.rk c' ≤ F.rk a) && decide (F.rk b ≤ F.rk d)) := rfl
      rw [hh, ← le_dec (p := F.rk c') (q := F.rk a), ← le_dec (p := F.rk b) (q := F.rk d)] at h
      by_cases q : cmpI (F.rk c') (F.rk a) ≤ 0
      · rw [decide_eq_true q] at h
        simp [idx_iv0, idx_iv1, g2, ok, io.lo, jo.lo, io.ln, jo.ln, io.ho, jo.ho, io.hn, jo.hn, q]
        exact ends_rt (by simpa using h)
      · rw [decide_eq_false q] at h
        simp [idx_iv0, idx_iv1, g2, ok, io.lo, jo.lo, io.ln, jo.ln, io.ho, jo.ho, io.hn, jo.hn, q]
        exact ends_rt (by simpa using h)
end
end U
end
section
set_option maxHeartbeats 1000000
namespace U
open PySem PySem.Spec PyProof.Rows L2 DL
section
variable {Γ : List DSp} {xm : Nat → Nat → Option Bool} {ds : List D} {M : Mem} {Q : QD} {E : XD} {F G : Fm} {v u : Va} {md : Md} {x y x1 x2 y1 y2 : Rat} {W : WD} {s : Int} {k : Bool → Prop} {i j : Iv} {a b c d : Va} {o : Wd}
def φ_ranged : DSp := fun l M Q _ => match l with
  | [.str w, p, q] => ∃ o : Wd, w = o.nm ∧ onRg (fun x1 x2 => onRg (fun y1 y2 => (o = .div → nought y1 y2 = false ∧ y1 ≠ 0 ∧ y2 ≠ 0) ∧ Sz 1900 x1 ∧ Sz 1900 x2 ∧ Sz 1900 y1 ∧ Sz 1900 y2 ∧ Q (rgD (o.lo x1 x2 y1 y2) (o.hi x1 x2 y1 y2)) M) q) p
  | _ => False
theorem ranged_ok (hd : o = .div → nought y1 y2 = false ∧ y1 ≠ 0 ∧ y2 ≠ 0) (h1 : Sz 1900 x1) (h2 : Sz 1900 x2) (h3 : Sz 1900 y1) (h4 : Sz 1900 y2) (h : Q (rgD (o.lo x1 x2 y1 y2) (o.hi x1 x2 y1 y2)) M) : φ_ranged [.str o.nm, rgD x1 x2, rgD y1 y2] M Q E :=
  ⟨o, rfl, x1, x2, rfl, y1, y2, rfl, hd, h1, h2, h3, h4, h⟩
@[simp] theorem w_as : (("add" : Str) = "sub") = False := by decide +kernel
@[simp] theorem w_am : (("add" : Str) = "mul") = False := by decide +kernel
@[simp] theorem w_ad : (("add" : Str) = "div") = False := by decide +kernel
@[simp] theorem w_sa : (("sub" : Str) = "add") = False := by decide +kernel
@[simp] theorem w_sm : (("sub" : Str) = "mul") = False := by decide +kernel
@[simp] theorem w_sd : (("sub" : Str) = "div") = False := by decide +kernel
@[simp] theorem w_ma : (("mul" : Str) = "add") = False := by decide +kernel
@[simp] theorem w_ms : (("mul" : Str) = "sub") = False := by decide +kernel
@[simp] theorem w_md : (("mul" : Str) = "div") = False := by decide +kernel
@[simp] theorem w_da : (("div" : Str) = "add") = False := by decide +kernel
@[simp] theorem w_ds : (("div" : Str) = "sub") = False := by decide +kernel
@[simp] theorem w_dm : (("div" : Str) = "mul") = False := by decide +kernel
theorem b_ranged (g1 : Γ[82]? = some φ_sum_range) (g2 : Γ[83]? = some φ_turned_range) (g3 : Γ[84]? = some φ_product_range) (g4 : Γ[86]? = some φ_quotient_range) (h : φ_ranged ds M Q E) : dSs Γ xm ir_ranged (endW E) (endS Q) (startD 3 ds) M := by
  unfold φ_ranged at h
  split at h
  case h_2 => exact h.elim
  obtain ⟨o, rfl, x1, x2, rfl, y1, y2, rfl, hd, h1, h2, h3, h4, h⟩ := h
  have k1 := h1.mono (show 1900 ≤ 4000 by decide)
  have k2 := h2.mono (show 1900 ≤ 4000 by decide)
  have k3 := h3.mono (show 1900 ≤ 4000 by decide)
  have k4 := h4.mono (show 1900 ≤ 4000 by decide)
  unfold ir_ranged
  cases o
  · simp [startD, Wd.nm, g1, k1, k2, k3, k4]
    exact ends_rt h
  · simp [startD, Wd.nm]
    unfold ir_ranged_k2
    simp [g1, g2, k1, k2, k3.neg, k4.neg]
    exact ends_rt h
  · simp [startD, Wd.nm]
    unfold ir_ranged_k2
    simp
    unfold ir_ranged_k1
    simp [g3, h1, h2, h3, h4]
    exact ends_rt h
  · obtain ⟨n1, n2, n3⟩ := hd rfl
    simp [startD, Wd.nm]
    unfold ir_ranged_k2
    simp
    unfold ir_ranged_k1
    simp [g4, h1, h2, h3, h4, n1, n2, n3]
    exact ends_rt h
def φ_made : DSp := fun l M Q E => match l with
  | [f, .str w, d1, d2] => onF (fun F => F.wd ∧ ((∃ (o : Wd) (i j : Iv), w = o.nm ∧ d1 = ivD i ∧ d2 = ivD j ∧ i.ok F ∧ j.ok F ∧ Q (ivD (F.made o i j)) M) ∨ ((w = "rem" ∨ w = "" ∨ w = "fma") ∧ d1 = ivD none ∧ d2 = ivD none ∧ E 0 [] M))) f
  | _ => False
theorem made_ok (wd : F.wd) (io : i.ok F) (jo : j.ok F) (h : Q (ivD (F.made o i j)) M) : φ_made [fmD F, .str o.nm, ivD i, ivD j] M Q E := ⟨F, rfl, wd.ok, wd, .inl ⟨o, i, j, rfl, rfl, rfl, io, jo, h⟩⟩
theorem in_words (o : Wd) {k : Bool → Prop} : wIn (.str o.nm) (.tup [.str "add", .str "sub", .str "mul", .str "div"]) M k = k true := by
  rw [in_tup rfl rfl]
  congr 1
  cases o <;> decide +kernel
theorem rg_some {p : Rat × Rat} (h : F.rg i = some p) : ∃ a b, i = some (a, b) ∧ a.fin = true ∧ b.fin = true ∧ p = (a.val F, b.val F) := by
  rcases i with _ | ⟨a, b⟩
  · cases h
  · have : (if a.fin = true ∧ b.fin = true then some (a.val F, b.val F) else none) = some p := h
    split at this
    · rename_i c
      cases this
      exact ⟨a, b, rfl, c.1, c.2, rfl⟩
    · cases this
theorem rg_le (ok : F.ok) (io : i.ok F) (h : F.rg i = some (x, y)) : x ≤ y := by
  obtain ⟨a, b, rfl, ha, hb, e⟩ := rg_some h
  cases e
  exact iv_val ok io ha hb
theorem rg_sz (wd : F.wd) (io : i.ok F) (h : F.rg i = some (x, y)) : Sz 200 x ∧ Sz 200 y := by
  obtain ⟨a, b, rfl, ha, hb, e⟩ := rg_some h
  cases e
  have io : IvOk F a b := io
  exact ⟨wd_sz wd io.lo, wd_sz wd io.ho⟩
theorem nought_ne (h : y1 ≤ y2) (hn : nought y1 y2 = false) : y1 ≠ 0 ∧ y2 ≠ 0 := by
  unfold nought at hn
  simp at hn
  constructor
  · rintro rfl
    have := hn Rat.le_refl
    grind
  · rintro rfl
    have := hn h
    grind
theorem num_eq0 (x : Rat) : (x.num = 0) = (x = 0) := propext Rat.num_eq_zero
theorem b_made (g1 : Γ[88]? = some φ_look_at_interval) (g2 : Γ[92]? = some φ_range_in) (g3 : Γ[89]? = some φ_whole_line) (g4 : Γ[96]? = some φ_ranged) (g5 : Γ[90]? = some φ_around) (h : φ_made ds M Q E) : dSs Γ xm ir_made (endW E) (endS Q) (startD 7 ds) M := by
  unfold φ_made at h
  split at h
  case h_2 => exact h.elim
  rename_i w _ _
  obtain ⟨F, rfl, ok, wd, h⟩ := h
  unfold ir_made
  simp [startD, g1]
  rcases h with ⟨o, i, j, rfl, rfl, rfl, io, jo, h⟩ | ⟨hw, rfl, rfl, h⟩
  · refine look_ok ok io ?_
    unfold ir_made_k9
    simp [g1]
    refine look_ok ok jo ?_
    unfold ir_made_k8
    simp [in_words]
    unfold ir_made_k7
    unfold Fm.made at h
    by_cases c : i = none ∨ j = none
    · rw [if_pos c] at h
      simp [c]
      exact ends_rt h
    · rw [if_neg c] at h
      simp [c]
      unfold ir_made_k6
      simp [g2]
      refine range_ok ok io ?_
      refine range_ok ok jo ?_
      have hdv : (o.nm = "div") ↔ o = .div := by cases o <;> simp [Wd.nm]
      have tail : ∀ {r t : Option (Rat × Rat)}, F.rg i = r → F.rg j = t → (∀ y1 y2, t = some (y1, y2) → ¬ (o = .div ∧ y1 = 0 ∧ y2 = 0)) → (match r, t with | some (x1, x2), some (y1, y2) => Q (ivD (if o = .div ∧ nought y1 y2 = true then wholeI else F.ard (o.lo x1 x2 y1 y2) (o.hi x1 x2 y1 y2))) M | _, _ => Q (ivD wholeI) M) → dSs Γ xm ir_made_k4 (endW E) (endS Q) [some (fmD F), some (.str o.nm), some (ivD i), some (ivD j), some (rgO r), some (rgO t), none] M := by
        intro r t hr ht hz h
        unfold ir_made_k4
        rcases r with _ | ⟨x1, x2⟩
        · simp [rgO, g3]
          exact ends_rt h
        · rcases t with _ | ⟨y1, y2⟩
          · simp [rgO, g3]
            exact ends_rt h
          · simp [rgO]
            simp only at h
            obtain ⟨sx1, sx2⟩ := rg_sz wd io hr
            obtain ⟨sy1, sy2⟩ := rg_sz wd jo ht
            have lx := rg_le ok io hr
            have ly := rg_le ok jo ht
            have fin : (o = .div → nought y1 y2 = false) → Q (ivD (F.ard (o.lo x1 x2 y1 y2) (o.hi x1 x2 y1 y2))) M → dSs Γ xm ir_made_k2 (endW E) (endS Q) [some (fmD F), some (.str o.nm), some (ivD i), some (ivD j), some (rgD x1 x2), some (rgD y1 y2), none] M := fun hn h => by
              unfold ir_made_k2
              simp [g4]
              refine ranged_ok (fun z => ⟨hn z, nought_ne ly (hn z)⟩) (sx1.mono (by decide)) (sx2.mono (by decide)) (sy1.mono (by decide)) (sy2.mono (by decide)) ?_
              unfold ir_made_k1
              have l1 := lo_sz (o := o) sx1 sx2 sy1 sy2
              have l2 := hi_sz (o := o) sx1 sx2 sy1 sy2
              simp [g5]
              exact around_ok ok (l1.mono (by decide)) (l2.mono (by decide)) (lo_hi lx ly) (l1.mono (by decide)).nm (l2.mono (by decide)).nm (ends_rt h)
            unfold ir_made_k3
            by_cases cd : o = .div
            · have cd' := hdv.mpr cd
              by_cases q1 : y1 ≤ 0
              · have q1' : y1.num ≤ 0 := by rw [num_le0]; exact q1
                by_cases q2 : 0 ≤ y2
                · have q2' : 0 ≤ y2.num := by rw [num_ge0]; exact q2
                  have hn : nought y1 y2 = true := by simp [nought, q1, q2]
                  rw [if_pos ⟨cd, hn⟩] at h
                  simp [cd', q1', q2', g3]
                  exact ends_rt h
                · have q2' : ¬ 0 ≤ y2.num := by rw [num_ge0]; exact q2
                  have hn : nought y1 y2 = false := by simp [nought, q2]
                  rw [if_neg (by simp [hn])] at h
                  simp only [cd'] at fin ⊢
                  simp [q1', q2']
                  exact fin (fun _ => hn) h
              · have q1' : ¬ y1.num ≤ 0 := by rw [num_le0]; exact q1
                have hn : nought y1 y2 = false := by simp [nought, q1]
                rw [if_neg (by simp [hn])] at h
                simp only [cd'] at fin ⊢
                simp [q1']
                exact fin (fun _ => hn) h
            · have cd' : ¬ o.nm = "div" := fun z => cd (hdv.mp z)
              rw [if_neg (by simp [cd])] at h
              simp [cd']
              exact fin (fun z => absurd z cd) h
      unfold ir_made_k5
      rcases ht : F.rg j with _ | ⟨y1, y2⟩
      · rw [ht] at h
        have tt := tail (r := F.rg i) rfl ht (fun _ _ z => by cases z) (by rcases F.rg i with _ | ⟨x1, x2⟩ <;> exact h)
        by_cases cd : o.nm = "div"
        · simp [cd] at tt ⊢
          simp [rgO] at tt ⊢
          exact tt
        · simp [cd]
          exact tt
      · rw [ht] at h
        simp only at h
        by_cases cz : o = .div ∧ y1 = 0 ∧ y2 = 0
        · rw [if_pos cz] at h
          obtain ⟨c1, c2, c3⟩ := cz
          simp [rgO, hdv.mpr c1, num_eq0, c2, c3]
          exact ends_rt h
        · rw [if_neg cz] at h
          have tt := tail (r := F.rg i) rfl ht (fun _ _ z => by cases z; exact cz) (by
            cases e : F.rg i with
            | none => rw [e] at h; exact h
            | some p => obtain ⟨x1, x2⟩ := p; rw [e] at h; exact h)
          by_cases cd : o = .div
          · have cd' := hdv.mpr cd
            simp only [cd'] at tt ⊢
            simp [rgO, num_eq0] at tt ⊢
            by_cases c2 : y1 = 0
            · have c3 : ¬ y2 = 0 := fun z => cz ⟨cd, c2, z⟩
              simp [c2, c3] at tt ⊢
              exact tt
            · simp [c2] at tt ⊢
              exact tt
          · have cd' : ¬ o.nm = "div" := fun z => cd (hdv.mp z)
            simp [cd']
            exact tt
  · refine look_ok ok trivial ?_
    unfold ir_made_k9
    simp [g1]
    refine look_ok ok trivial ?_
    unfold ir_made_k8
    have inw : ∀ k : Bool → Prop, wIn (.str w) (.tup [.str "add", .str "sub", .str "mul", .str "div"]) M k = k false := fun k => by
      rw [in_tup rfl rfl]
      congr 1
      rcases hw with rfl | rfl | rfl <;> decide +kernel
    simp [inw]
    exact ends_w h
end
end U
end
section
set_option maxHeartbeats 1000000
namespace U
open PySem PySem.Spec PyProof.Rows L2 DL
section
variable {Γ : List DSp} {xm : Nat → Nat → Option Bool} {ds : List D} {M : Mem} {Q : QD} {E : XD} {F G : Fm} {v u : Va} {md : Md} {x y x1 x2 y1 y2 : Rat} {W : WD} {s : Int} {k : Bool → Prop} {i j : Iv} {a b c d : Va} {o : Wd} {p : Addr}
theorem ex_wd (wd : F.wd) (vo : v.ok F) : (v.exN F).natAbs < 2 ^ 190 ∧ (v.exD F).natAbs < 2 ^ 130 := by
  have ok := wd.ok
  have h1 := wd.l1; have h2 := wd.h2; have lh := wd.lh; have tl := wd.top_lt
  cases v with
  | num s m e =>
    obtain ⟨hs, l1, l2, l3, l4, l5⟩ := vo
    have hm : (s * (m : Int)).natAbs < 2 ^ 45 := by
      rw [Int.natAbs_mul, sgn_abs hs]
      omega
    exact ⟨mul_abs (m := 45) (n := 141) hm (bpow_lt ok.b_lt (by omega)) (by omega), bpow_lt ok.b_lt (by omega)⟩
  | _ => exact ⟨Nat.pow_pos (by decide), Nat.one_lt_two_pow (by decide)⟩
theorem nn_fin (h : v ≠ .nan) : v.fin = !v.isInf := by
  cases v <;> first | rfl | exact absurd rfl h
def φ_law_key : DSp := fun l M Q _ => match l with
  | [f, d] => onF (fun F => onV (fun v => v.wk ∧ v ≠ .nan ∧ Q (.tup [.int v.sgI, .int (v.exN F), .int (v.exD F)]) M) d) f
  | _ => False
@[simp] theorem law_key_s : φ_law_key [fmD F, vaD v] M Q E = (F.ok ∧ v.wk ∧ v ≠ .nan ∧ Q (.tup [.int v.sgI, .int (v.exN F), .int (v.exD F)]) M) := by simp [φ_law_key]
theorem b_law_key (g : Γ[67]? = some φ_law_exact) (h : φ_law_key ds M Q E) : dSs Γ xm ir_law_key (endW E) (endS Q) (startD 4 ds) M := by
  unfold φ_law_key at h
  split at h
  case h_2 => exact h.elim
  obtain ⟨F, rfl, ok, v, rfl, vw, vn, h⟩ := h
  unfold ir_law_key
  cases v with
  | nan => exact absurd rfl vn
  | inf s =>
    have i1 : ∀ (M : Mem) (Q : QD), wIdx (vaD (.inf s)) (.int 1) M Q = Q (.int s) M := fun _ _ => rfl
    simp [startD, Va.kind, i1]
    exact ends_rt h
  | zero s =>
    simp [startD, Va.kind]
    unfold ir_law_key_k2
    simp [g, ok, Va.wk, Va.fin]
    unfold ir_law_key_k1
    simp
    exact ends_rt h
  | num s m e =>
    simp [startD, Va.kind]
    unfold ir_law_key_k2
    simp [g, ok, vw, Va.fin]
    unfold ir_law_key_k1
    simp
    exact ends_rt h
def φ_law_le : DSp := fun l M Q _ => match l with
  | [f, p, q] => onF (fun F => onV (fun u => onV (fun v => u.ok F ∧ v.ok F ∧ u ≠ .nan ∧ v ≠ .nan ∧ Q (.bl (decide (F.rk u ≤ F.rk v))) M) q) p) f
  | _ => False
@[simp] theorem law_le_s : φ_law_le [fmD F, vaD u, vaD v] M Q E = (F.ok ∧ u.ok F ∧ v.ok F ∧ u ≠ .nan ∧ v ≠ .nan ∧ Q (.bl (decide (F.rk u ≤ F.rk v))) M) := by simp [φ_law_le]
theorem b_law_le (g : Γ[98]? = some φ_law_key) (h : φ_law_le ds M Q E) : dSs Γ xm ir_law_le (endW E) (endS Q) (startD 5 ds) M := by
  unfold φ_law_le at h
  split at h
  case h_2 => exact h.elim
  obtain ⟨F, rfl, ok, u, rfl, v, rfl, uo, vo, un, vn, h⟩ := h
  have key := rk_le ok uo vo un vn
  unfold ir_law_le
  simp [startD, g, ok, ok_wk ok uo, ok_wk ok vo, un, vn]
  unfold ir_law_le_k2
  by_cases c : u.sgI = v.sgI
  · have e : Va.le F u v ↔ u.exN F * v.exD F ≤ v.exN F * u.exD F := by
      unfold Va.le
      rw [if_neg (by simp [c]), ← ex_val ok, ← ex_val ok, dle (exD_pos ok) (exD_pos ok)]
    rw [decide_eq_decide.mpr (key.trans e)] at h
    obtain ⟨s1, s2⟩ := ex_sz ok uo
    obtain ⟨s3, s4⟩ := ex_sz ok vo
    simp [c]
    unfold ir_law_le_k1
    have m1 : IntMulOk (u.exN F) (v.exD F) := mulOk s1 s4 (by decide)
    have m2 : IntMulOk (v.exN F) (u.exD F) := mulOk s3 s2 (by decide)
    simp [m1, m2]
    exact ends_rt h
  · have e : Va.le F u v ↔ u.sgI < v.sgI := by unfold Va.le; rw [if_pos c]
    rw [decide_eq_decide.mpr (key.trans e)] at h
    simp [c]
    exact ends_rt h
def φ_law_interval : DSp := fun l M Q _ => match l with
  | [.ref p, f] => onF (fun F => F.wd ∧ Dw p M ∧ ∀ (i : Iv) o, i.ok F → DrS o → Q (ivD i) (M.put p o)) f
  | _ => False
theorem interval_put {o : MO} (wd : F.wd) (ho : DrS o) (h : ∀ (i : Iv) o, i.ok F → DrS o → Q (ivD i) (M.put p o)) : φ_law_interval [.ref p, fmD F] (M.put p o) Q E :=
  ⟨F, rfl, wd.ok, wd, .put ho, fun i o' io ho' => by rw [Mem.put_put]; exact h i o' io ho'⟩
theorem num_nn (h : v.isNum = true) : v ≠ .nan ∧ v ≠ .inf 1 ∧ v ≠ .inf (-1) := by
  cases v <;> first | (refine ⟨?_, ?_, ?_⟩ <;> simp; done) | cases h
theorem b_law_interval (g1 : Γ[23]? = some φ_law_draw) (g2 : Γ[68]? = some φ_law_number) (g3 : Γ[75]? = some φ_law_pick) (g4 : Γ[99]? = some φ_law_le) (h : φ_law_interval ds M Q E) : dSs Γ xm ir_law_interval (endW E) (endS Q) (startD 5 ds) M := by
  unfold φ_law_interval at h
  split at h
  case h_2 => exact h.elim
  rename_i p _
  obtain ⟨F, rfl, ok, wd, hd, h⟩ := h
  obtain ⟨M0, o0, rfl, ho0⟩ := hd.form
  simp only [Mem.put_put] at h
  unfold ir_law_interval
  simp [startD, g1]
  refine draw_m (by omega) (by omega) ho0 fun v1 o1 h10 h11 ho1 => ?_
  unfold ir_law_interval_k7
  by_cases c0 : v1 = 0
  · simp [c0]
    exact ends_rt (h none o1 trivial ho1)
  · simp [c0]
    unfold ir_law_interval_k6
    simp [g2]
    refine ⟨F, rfl, ok, wd, .put ho1, fun a o2 an ao ho2 => ?_⟩
    simp only [Mem.put_put]
    refine ⟨F, rfl, ok, wd, .put ho2, fun b o3 bn bo ho3 => ?_⟩
    simp only [Mem.put_put]
    obtain ⟨a1, a2, a3⟩ := num_nn an
    obtain ⟨b1, b2, b3⟩ := num_nn bn
    -- two values, in order
    have last : ∀ (a b : Va) (o : MO), a.ok F → b.ok F → a ≠ .nan → b ≠ .nan → (F.rk a ≤ F.rk b → a ≠ .inf 1 ∧ b ≠ .inf (-1)) → (¬ F.rk a ≤ F.rk b → b ≠ .inf 1 ∧ a ≠ .inf (-1)) → DrS o → dSs Γ xm ir_law_interval_k1 (endW E) (endS Q) [some (.ref p), some (fmD F), some (.int v1), some (vaD a), some (vaD b)] (M0.put p o) := fun a b o ao bo an bn h1 h2 ho => by
      unfold ir_law_interval_k1
      by_cases q : F.rk a ≤ F.rk b
      · simp [g4, ok, ao, bo, an, bn, q]
        exact ends_rt (h (some (a, b)) o ⟨ao, bo, an, bn, (h1 q).1, (h1 q).2, q⟩ ho)
      · simp [g4, ok, ao, bo, an, bn, q]
        exact ends_rt (h (some (b, a)) o ⟨bo, ao, bn, an, (h2 q).1, (h2 q).2, by omega⟩ ho)
    have e1 : D.tup [.str "inf", .int 1] = vaD (.inf 1) := rfl
    have e2 : D.tup [.str "inf", .int (-1)] = vaD (.inf (-1)) := rfl
    have u1 : (Va.inf 1).ok F := .inl rfl
    have u2 : (Va.inf (-1)).ok F := .inr rfl
    have t2 : ∀ (a b : Va) (o : MO), a.ok F → b.ok F → a ≠ .nan → b ≠ .nan → a ≠ .inf 1 → a ≠ .inf (-1) → b ≠ .inf 1 → b ≠ .inf (-1) → DrS o → dSs Γ xm ir_law_interval_k4 (endW E) (endS Q) [some (.ref p), some (fmD F), some (.int v1), some (vaD a), some (vaD b)] (M0.put p o) := fun a b o ao bo an bn a1 a2 b1 b2 ho => by
      unfold ir_law_interval_k4
      by_cases c2 : v1 = 2
      · simp only [c2] at last ⊢
        simp [e2]
        unfold ir_law_interval_k3
        simp
        unfold ir_law_interval_k2
        simp
        refine last _ b o u2 bo (by simp) bn (fun _ => ⟨by simp, b2⟩) (fun z => ?_) ho
        have := rk_bd ok bo
        have q : F.rk (.inf (-1)) = -1 * (F.many + 1) := rfl
        omega
      · by_cases c3 : v1 = 3
        · simp only [c3] at last ⊢
          simp [e1]
          unfold ir_law_interval_k3
          simp [e1]
          unfold ir_law_interval_k2
          simp
          refine last a _ o ao u1 an (by simp) (fun _ => ⟨a1, by simp⟩) (fun z => ?_) ho
          have := rk_bd ok ao
          have q : F.rk (.inf 1) = 1 * (F.many + 1) := rfl
          omega
        · by_cases c4 : v1 = 4
          · simp only [c4] at last ⊢
            simp
            unfold ir_law_interval_k3
            simp
            unfold ir_law_interval_k2
            simp
            exact last a a o ao ao an an (fun _ => ⟨a1, a2⟩) (fun _ => ⟨a1, a2⟩) ho
          · simp [c2]
            unfold ir_law_interval_k3
            simp [c3]
            unfold ir_law_interval_k2
            simp [c4]
            exact last a b o ao bo an bn (fun _ => ⟨a1, b2⟩) (fun _ => ⟨b1, a2⟩) ho
    unfold ir_law_interval_k5
    by_cases c1 : v1 = 1
    · simp [c1, g3]
      refine pick_m ho3 (by simp) (by simp) fun d hd o4 ho4 => ?_
      obtain ⟨s, rfl, hs⟩ : ∃ s : Int, d = .int s ∧ sgn s := by
        simp at hd
        rcases hd with rfl | rfl
        · exact ⟨_, rfl, .inl rfl⟩
        · exact ⟨_, rfl, .inr rfl⟩
      have ez : D.tup [.str "zero", .int s] = vaD (.zero s) := rfl
      simp [ez]
      have := t2 (.zero s) b o4 hs bo (by simp) b1 (by simp) (by simp) b2 b3 ho4
      rw [c1] at this
      exact this
    · simp [c1]
      exact t2 a b o3 ao bo a1 b1 a2 a3 b2 b3 ho3
/-- an interval's ends, as the law has them -/
def enD (F : Fm) : Iv → D
  | none => .non
  | some (a, b) => if a.isInf = true ∨ b.isInf = true then .non else .tup [exP F a, exP F b]
def φ_law_ends : DSp := fun l M Q _ => match l with
  | [f, d] => onF (fun F => ∃ i, d = ivD i ∧ i.ok F ∧ Q (enD F i) M) f
  | _ => False
theorem law_ends_ok (ok : F.ok) (io : i.ok F) (h : Q (enD F i) M) : φ_law_ends [fmD F, ivD i] M Q E := ⟨F, rfl, ok, i, rfl, io, h⟩
theorem b_law_ends (g : Γ[67]? = some φ_law_exact) (h : φ_law_ends ds M Q E) : dSs Γ xm ir_law_ends (endW E) (endS Q) (startD 2 ds) M := by
  unfold φ_law_ends at h
  split at h
  case h_2 => exact h.elim
  obtain ⟨F, rfl, ok, i, rfl, io, h⟩ := h
  unfold ir_law_ends
  rcases i with _ | ⟨a, b⟩
  · simp [startD]
    exact ends_rt h
  · have io : IvOk F a b := io
    have hh : enD F (some (a, b)) = if a.isInf = true ∨ b.isInf = true then .non else .tup [exP F a, exP F b] := rfl
    rw [hh] at h
    have fa := nn_fin io.ln
    have fb := nn_fin io.hn
    cases ca : a.isInf with
    | true =>
      simp [ca] at h
      simp [startD, idx_iv0, idx_iv1, kind_inf, ca]
      exact ends_rt h
    | false =>
      rw [ca] at fa
      cases cb : b.isInf with
      | true =>
        simp [cb] at h
        simp [startD, idx_iv0, idx_iv1, kind_inf, ca, cb]
        exact ends_rt h
      | false =>
        rw [cb] at fb
        simp [ca, cb] at h
        simp [startD, idx_iv0, idx_iv1, kind_inf, ca, cb, g, ok, ok_wk ok io.lo, ok_wk ok io.ho, fa, fb]
        exact ends_rt h
def φ_law_has : DSp := fun l M Q _ => match l with
  | [f, d, .int p, .int q] => onF (fun F => ∃ i, d = ivD i ∧ i.ok F ∧ 0 < q ∧ p.natAbs < 2 ^ 3000 ∧ q.natAbs < 2 ^ 3000 ∧ Q (.bl (F.hasB i (Rat.divInt p q))) M) f
  | _ => False
theorem law_has_ok {p q : Int} (ok : F.ok) (io : i.ok F) (hq : 0 < q) (h1 : p.natAbs < 2 ^ 3000) (h2 : q.natAbs < 2 ^ 3000) (h : Q (.bl (F.hasB i (Rat.divInt p q))) M) : φ_law_has [fmD F, ivD i, .int p, .int q] M Q E := ⟨F, rfl, ok, i, rfl, io, hq, h1, h2, h⟩
theorem b_law_has (g : Γ[67]? = some φ_law_exact) (h : φ_law_has ds M Q E) : dSs Γ xm ir_law_has (endW E) (endS Q) (startD 7 ds) M := by
  unfold φ_law_has at h
  split at h
  case h_2 => exact h.elim
  rename_i p q
  obtain ⟨F, rfl, ok, i, rfl, io, hq, s1, s2, h⟩ := h
  unfold ir_law_has
  rcases i with _ | ⟨a, b⟩
  · simp [startD]
    exact ends_rt h
  · have io : IvOk F a b := io
    have hh : F.hasB (some (a, b)) (Rat.divInt p q) = ((!a.fin || decide (a.val F ≤ Rat.divInt p q)) && (!b.fin || decide (Rat.divInt p q ≤ b.val F))) := rfl
    rw [hh, ← ex_val ok, ← ex_val ok, decide_eq_decide.mpr (dle (exD_pos ok) hq), decide_eq_decide.mpr (dle hq (exD_pos ok)), nn_fin io.ln, nn_fin io.hn] at h
    obtain ⟨z1, z2⟩ := ex_sz ok io.lo
    obtain ⟨z3, z4⟩ := ex_sz ok io.ho
    have i1 : IntMulOk (a.exN F) q := mulOk z1 s2 (by decide)
    have i2 : IntMulOk p (a.exD F) := mulOk s1 z2 (by decide)
    have i3 : IntMulOk p (b.exD F) := mulOk s1 z4 (by decide)
    have i4 : IntMulOk (b.exN F) q := mulOk z3 s2 (by decide)
    have e1 : sqM M (ivD (some (a, b))) = some [vaD a, vaD b] := rfl
    simp [startD]
    unfold ir_law_has_k3
    simp [e1]
    have tail : ∀ t : Bool, Q (.bl (t && (!!b.isInf || decide (p * b.exD F ≤ b.exN F * q)))) M → dSs Γ xm ir_law_has_k1 (endW E) (endS Q) [some (fmD F), some (ivD (some (a, b))), some (.int p), some (.int q), some (vaD a), some (vaD b), some (.bl t)] M := fun t h => by
      unfold ir_law_has_k1
      cases t with
      | false => simp at h ⊢; exact ends_rt h
      | true =>
        cases cb : b.isInf with
        | true => simp [cb, kind_inf] at h ⊢; exact ends_rt h
        | false =>
          have fb := nn_fin io.hn
          rw [cb] at fb
          simp [cb, kind_inf, g, ok, ok_wk ok io.ho, fb, i3, i4] at h ⊢
          exact ends_rt h
    unfold ir_law_has_k2
    cases ca : a.isInf with
    | true =>
      rw [ca] at h
      simp [ca, kind_inf]
      exact tail true (by simpa using h)
    | false =>
      rw [ca] at h
      have fa := nn_fin io.ln
      rw [ca] at fa
      simp [ca, kind_inf, g, ok, ok_wk ok io.lo, fa, i1, i2]
      exact tail _ (by simpa using h)
def Fm.alike (F : Fm) : Iv → Iv → Bool
  | none, none => true
  | some (a, b), some (c, d) => decide (F.rk a = F.rk c ∧ F.rk b = F.rk d)
  | _, _ => false
def φ_law_alike : DSp := fun l M Q _ => match l with
  | [f, d1, d2] => onF (fun F => ∃ i j, d1 = ivD i ∧ d2 = ivD j ∧ i.ok F ∧ j.ok F ∧ Q (.bl (F.alike i j)) M) f
  | _ => False
theorem alike_ok (ok : F.ok) (io : i.ok F) (jo : j.ok F) (h : Q (.bl (F.alike i j)) M) : φ_law_alike [fmD F, ivD i, ivD j] M Q E := ⟨F, rfl, ok, i, j, rfl, rfl, io, jo, h⟩
theorem b_law_alike (g : Γ[99]? = some φ_law_le) (h : φ_law_alike ds M Q E) : dSs Γ xm ir_law_alike (endW E) (endS Q) (startD 4 ds) M := by
  unfold φ_law_alike at h
  split at h
  case h_2 => exact h.elim
  obtain ⟨F, rfl, ok, i, j, rfl, rfl, io, jo, h⟩ := h
  unfold ir_law_alike
  rcases i with _ | ⟨a, b⟩
  · rcases j with _ | ⟨c, d⟩
    · simp [startD]
      exact ends_rt h
    · simp [startD]
      exact ends_rt h
  · rcases j with _ | ⟨c, e⟩
    · simp [startD]
      exact ends_rt h
    · have io : IvOk F a b := io
      have jo : IvOk F c e := jo
      have hh : F.alike (some (a, b)) (some (c, e)) = decide (F.rk a = F.rk c ∧ F.rk b = F.rk e) := rfl
      rw [hh] at h
      simp [startD]
      unfold ir_law_alike_k3
      have el : wBlt .len [ivD (some (a, b))] M = fun Q => Q (.int 2) M := rfl
      simp [el]
      refine ⟨⟨by decide, by decide⟩, fun p hp => ?_⟩
      let bb : Int → Bool := fun n => if n = 0 then decide (F.rk a = F.rk c) else decide (F.rk b = F.rk e)
      have er : rngD 0 1 2 = [.int 0, .int 1] := rfl
      rw [er]
      refine lc_pure (g := fun x => match x with | .int n => if bb n = true then none else some x | _ => none) hp (fun _ => trivial) _ _ (fun x hx acc' kk hkk => ?_) (by simp [rngD, sizeLine_eq]) ?_
      · have hx : x = .int 0 ∨ x = .int 1 := by simpa using hx
        rcases hx with rfl | rfl
        · have j1 : ∀ (M : Mem) (Q : QD), wIdx (ivD (some (a, b))) (.int 0) M Q = Q (vaD a) M := fun _ _ => rfl
          have j2 : ∀ (M : Mem) (Q : QD), wIdx (ivD (some (c, e))) (.int 0) M Q = Q (vaD c) M := fun _ _ => rfl
          unfold ir_law_alike_t1 ir_law_alike_e2
          by_cases q1 : F.rk a ≤ F.rk c
          · by_cases q2 : F.rk c ≤ F.rk a
            · have q : F.rk a = F.rk c := by omega
              simp [bb, q] at hkk
              simp [wipeD, g, j1, j2, ok, io.lo, io.ln, jo.lo, jo.ln, q, hkk]
            · have q : ¬ F.rk a = F.rk c := by omega
              simp [bb, q] at hkk
              simp [wipeD, g, j1, j2, ok, io.lo, io.ln, jo.lo, jo.ln, q1, q2, hkk]
          · have q : ¬ F.rk a = F.rk c := by omega
            simp [bb, q] at hkk
            simp [wipeD, g, j1, j2, ok, io.lo, io.ln, jo.lo, jo.ln, q1, hkk]
        · have j1 : ∀ (M : Mem) (Q : QD), wIdx (ivD (some (a, b))) (.int 1) M Q = Q (vaD b) M := fun _ _ => rfl
          have j2 : ∀ (M : Mem) (Q : QD), wIdx (ivD (some (c, e))) (.int 1) M Q = Q (vaD e) M := fun _ _ => rfl
          unfold ir_law_alike_t1 ir_law_alike_e2
          by_cases q1 : F.rk b ≤ F.rk e
          · by_cases q2 : F.rk e ≤ F.rk b
            · have q : F.rk b = F.rk e := by omega
              simp [bb, q] at hkk
              simp [wipeD, g, j1, j2, ok, io.ho, io.hn, jo.ho, jo.hn, q, hkk]
            · have q : ¬ F.rk b = F.rk e := by omega
              simp [bb, q] at hkk
              simp [wipeD, g, j1, j2, ok, io.ho, io.hn, jo.ho, jo.hn, q1, q2, hkk]
          · have q : ¬ F.rk b = F.rk e := by omega
            simp [bb, q] at hkk
            simp [wipeD, g, j1, j2, ok, io.ho, io.hn, jo.ho, jo.hn, q1, hkk]
      · by_cases q1 : F.rk a = F.rk c <;> by_cases q2 : F.rk b = F.rk e <;> simp [List.filterMap_cons, bb, q1, q2] at h ⊢ <;> exact ends_rt h
end
end U
end
section
set_option maxHeartbeats 300000
namespace U
open PySem PySem.Spec PyProof.Rows L2 DL
/-- a fraction as a pair that need not be in lowest terms -/
def prD (r : Int × Int) : D := .tup [.int r.1, .int r.2]
def prR (r : Int × Int) : Rat := Rat.divInt r.1 r.2
structure Pw (r : Int × Int) : Prop where
  pos : 0 < r.2
  n : r.1.natAbs < 2 ^ 900
  d : r.2.natAbs < 2 ^ 900
def Wd.op : Wd → Rat → Rat → Rat
  | .add, x, y => x + y
  | .sub, x, y => x + -y
  | .mul, x, y => x * y
  | .div, x, y => x / y
def Wd.pr : Wd → Int × Int → Int × Int → Int × Int
  | .add, (a, b), (c, d) => (a * d + c * b, b * d)
  | .sub, (a, b), (c, d) => (a * d + (0 - c) * b, b * d)
  | .mul, (a, b), (c, d) => (a * c, b * d)
  | .div, (a, b), (c, d) => (a * d * (if 0 < c then 1 else -1), b * (if c < 0 then -c else c))
section
variable {Γ : List DSp} {xm : Nat → Nat → Option Bool} {ds : List D} {M : Mem} {Q : QD} {E : XD} {F G : Fm} {v u : Va} {md : Md} {x y x1 x2 y1 y2 : Rat} {W : WD} {s : Int} {k : Bool → Prop} {i j : Iv} {a b c d : Va} {o : Wd} {p : Addr} {r t : Int × Int} {Dn : En}
theorem Pw.lw (h : Pw r) : Lw r.1 r.2 := by
  have := h.pos
  exact ⟨h.pos, pow_mono h.n (by decide), pow_mono h.d (by decide), (Sz.nm (divInt_sz (by omega) h.n h.d)).up⟩
theorem Pw.mul (h : Pw r) (g : Pw t) : IntMulOk r.1 t.2 := mulOk h.n g.d (by decide)
theorem law_round_down {a b s : Int} : φ_law_round [fmD F, .str "down", .int a, .int b, .int s] M Q E = (F.ok ∧ Lw a b ∧ Q (resD (F.rnd .down (Rat.divInt a b) s)) M) := law_round_s (md := .down) (E := E)
theorem law_round_up {a b s : Int} : φ_law_round [fmD F, .str "up", .int a, .int b, .int s] M Q E = (F.ok ∧ Lw a b ∧ Q (resD (F.rnd .up (Rat.divInt a b) s)) M) := law_round_s (md := .up) (E := E)
theorem gtd {k l m n : Int} (hb : 0 < l) (hd : 0 < n) : (m * l < k * n) = (Rat.divInt m n < Rat.divInt k l) := propext (dlt hd hb).symm
def φ_law_around : DSp := fun l M Q _ => match l with
  | [f, rows] => onF (fun F => ∃ q qs, (rows = .lst ((q :: qs).map prD) ∨ ∃ p, rows = .ref p ∧ M p = some (.lst ((q :: qs).map prD))) ∧ (∀ r ∈ q :: qs, Pw r) ∧ Q (ivD (F.ard ((qs.map prR).foldl least (prR q)) ((qs.map prR).foldl most (prR q)))) M) f
  | _ => False
theorem b_law_around (g : Γ[66]? = some φ_law_round) (h : φ_law_around ds M Q E) : dSs Γ xm ir_law_around (endW E) (endS Q) (startD 6 ds) M := by
  unfold φ_law_around at h
  split at h
  case h_2 => exact h.elim
  rename_i rows
  obtain ⟨F, rfl, ok, q, qs, hr, hw, h⟩ := h
  have hq := hw q (by simp)
  have e1 : ∀ (Q : QD), wIdx rows (.int 0) M Q = Q (prD q) M := by
    intro Q
    rcases hr with rfl | ⟨p, rfl, hp⟩
    · simp
    · rw [← Mem.put_self hp]
      simp
  have e2 : itM M rows = some ((q :: qs).map prD) := by
    rcases hr with rfl | ⟨p, rfl, hp⟩
    · rfl
    · rw [← Mem.put_self hp]
      simp
  have e3 : chk rows ((q :: qs).map prD) M := by
    rcases hr with rfl | ⟨p, rfl, hp⟩
    · trivial
    · exact hp
  unfold ir_law_around
  simp only [startD]
  simp [e1]
  unfold ir_law_around_k4
  simp [e2]
  intro _
  refine for_inv (fun ds δ M' => ∃ qs' lo hi o4 o5, ds = qs'.map prD ∧ δ = [some (fmD F), some rows, some (prD lo), some (prD hi), o4, o5] ∧ M' = M ∧ Pw lo ∧ Pw hi ∧ (∀ r ∈ qs', Pw r) ∧ (qs'.map prR).foldl least (prR lo) = (qs.map prR).foldl least (prR q) ∧ (qs'.map prR).foldl most (prR hi) = (qs.map prR).foldl most (prR q)) ?_ ?_ _ _ _ ⟨q :: qs, q, q, none, none, rfl, rfl, rfl, hq, hq, hw, by simp [least], by simp [most]⟩
  · rintro d ds δ M' ⟨qs', lo, hi, o4, o5, e, rfl, rfl, hl, hh, hq', f1, f2⟩
    rcases qs' with _ | ⟨r, qs'⟩
    · simp at e
    simp at e
    obtain ⟨rfl, rfl⟩ := e
    refine ⟨by simpa using e3, fun nx hn => ?_⟩
    have hr' := hq' r (by simp)
    obtain ⟨r1, r2⟩ := r
    obtain ⟨l1, l2⟩ := lo
    obtain ⟨h1, h2⟩ := hi
    have m1 : IntMulOk r1 l2 := hr'.mul hl
    have m2 : IntMulOk l1 r2 := hl.mul hr'
    have m3 : IntMulOk r1 h2 := hr'.mul hh
    have m4 : IntMulOk h1 r2 := hh.mul hr'
    have pl : 0 < l2 := hl.pos
    have ph : 0 < h2 := hh.pos
    have pr : 0 < r2 := hr'.pos
    have second : ∀ lo' : Int × Int, Pw lo' → prR lo' = least (prR (l1, l2)) (prR (r1, r2)) → dSs Γ xm ir_law_around_k1 (endW E) { nx := nx, ct := nx, bk := fun δ' M' => dSs Γ xm ir_law_around_k3 (endW E) (endS Q) δ' M', rt := (endS Q).rt } [some (fmD F), some rows, some (prD lo'), some (prD (h1, h2)), some (.int r1), some (.int r2)] M' := fun lo' hl' el => by
      unfold ir_law_around_k1
      by_cases c : h1 * r2 < r1 * h2
      · have c' : prR (h1, h2) < prR (r1, r2) := (dlt ph pr).mpr c
        simp [prD, m3, m4, c]
        exact hn _ _ ⟨qs', lo', (r1, r2), _, _, rfl, rfl, rfl, hl', hr', fun x hx => hq' x (by simp [hx]), by rw [el, ← f1]; simp, by rw [← f2]; simp [most, c']⟩
      · have c' : ¬ prR (h1, h2) < prR (r1, r2) := fun z => c ((dlt ph pr).mp z)
        simp [prD, m3, m4, c]
        exact hn _ _ ⟨qs', lo', (h1, h2), _, _, rfl, rfl, rfl, hl', hh, fun x hx => hq' x (by simp [hx]), by rw [el, ← f1]; simp, by rw [← f2]; simp [most, c']⟩
    unfold ir_law_around_b2
    by_cases c : r1 * l2 < l1 * r2
    · have c' : prR (r1, r2) < prR (l1, l2) := (dlt pr pl).mpr c
      simp [prD, m1, m2, c]
      exact second (r1, r2) hr' (by simp [least, c'])
    · have c' : ¬ prR (r1, r2) < prR (l1, l2) := fun z => c ((dlt pr pl).mp z)
      simp [prD, m1, m2, c]
      exact second (l1, l2) hl (by simp [least, c'])
  · rintro δ M' ⟨qs', lo, hi, o4, o5, e, rfl, rfl, hl, hh, hq', f1, f2⟩
    rcases qs' with _ | ⟨r, qs'⟩
    · simp at f1 f2
      rw [← f1, ← f2] at h
      refine ⟨?_, ?_⟩
      · simpa using e3
      unfold ir_law_around_k3
      simp [prD, g, law_round_down, law_round_up, ok, hl.lw, hh.lw]
      exact ends_rt h
    · simp at e
theorem Wd.pr_val (hb : 0 < r.2) (hd : 0 < t.2) (hz : o = .div → t.1 ≠ 0) : prR (o.pr r t) = o.op (prR r) (prR t) := by
  obtain ⟨a, b⟩ := r
  obtain ⟨c, d⟩ := t
  have hb' : b ≠ 0 := by simp at hb; omega
  have hd' : d ≠ 0 := by simp at hd; omega
  cases o
  · exact (Rat.divInt_add_divInt a c hb' hd').symm
  · show Rat.divInt (a * d + (0 - c) * b) (b * d) = Rat.divInt a b + - Rat.divInt c d
    rw [Rat.neg_divInt, Rat.divInt_add_divInt _ _ hb' hd', Int.zero_sub]
  · exact (Rat.divInt_mul_divInt a c).symm
  · have hc : c ≠ 0 := hz rfl
    show Rat.divInt (a * d * (if 0 < c then 1 else -1)) (b * (if c < 0 then -c else c)) = Rat.divInt a b / Rat.divInt c d
    rw [Rat.div_def, Rat.inv_divInt, Rat.divInt_mul_divInt]
    rcases (by omega : 0 < c ∨ c < 0) with h | h
    · rw [if_pos h, if_neg (by omega), Int.mul_one]
    · rw [if_neg (by omega), if_pos h, Int.mul_neg, Int.mul_one, Int.mul_neg, Rat.neg_divInt_neg]
theorem in_as (o : Wd) {k : Bool → Prop} : wIn (.str o.nm) (.tup [.str "add", .str "sub"]) M k = k (decide (o = .add ∨ o = .sub)) := by
  rw [in_tup rfl rfl]
  congr 1
  cases o <;> decide +kernel
theorem made_step {o : Wd} {rows : List D} {a b c d : Int} {f i j e1 e2 : Option D} (hl : rows.length < 100) (m1 : IntMulOk a d) (m2 : IntMulOk c b) (m3 : IntMulOk b d) (m4 : IntMulOk a c) (m5 : IntMulOk (a * d) 1) (m6 : IntMulOk (a * d) (-1)) (m7 : IntMulOk (0 - c) b) (m8 : IntMulOk b c) (m9 : IntMulOk b (-c))
    (h : Dn.nx [f, some (.str o.nm), i, j, e1, e2, some (.ref p), some (.int a), some (.int b), some (.int c), some (.int d)] (M.put p (.lst (rows ++ [prD (o.pr (a, b) (c, d))])))) :
    dSs Γ xm ir_law_made_b1 W Dn [f, some (.str o.nm), i, j, e1, e2, some (.ref p), some (.int a), some (.int b), some (.int c), some (.int d)] (M.put p (.lst rows)) := by
  have hs : rows.length < sizeLine := by rw [sizeLine_eq]; omega
  have m7' : IntMulOk (-c) b := by simpa using m7
  unfold ir_law_made_b1
  simp [in_as]
  cases o with
  | add => simpa [Wd.nm, Wd.pr, prD, m1, m2, m3, hs] using h
  | sub => simpa [Wd.nm, Wd.pr, prD, m1, m3, m7', hs] using h
  | mul => simpa [Wd.nm, Wd.pr, prD, m4, m3, hs] using h
  | div =>
    by_cases z : 0 < c
    · have z' : ¬ c < 0 := by omega
      simpa [Wd.nm, Wd.pr, prD, m1, m5, m8, z, z', hs] using h
    · by_cases z' : c < 0
      · simpa [Wd.nm, Wd.pr, prD, m1, m6, m9, z, z', hs] using h
      · simpa [Wd.nm, Wd.pr, prD, m1, m6, m8, z, z', hs] using h
/-- the ends of an interval, small enough -/
structure Pe (r : Int × Int) : Prop where
  pos : 0 < r.2
  n : r.1.natAbs < 2 ^ 190
  d : r.2.natAbs < 2 ^ 130
def exR (F : Fm) (v : Va) : Int × Int := (v.exN F, v.exD F)
theorem ex_pe (wd : F.wd) (vo : v.ok F) : Pe (exR F v) := ⟨exD_pos wd.ok, (ex_wd wd vo).1, (ex_wd wd vo).2⟩
theorem ex_pr (ok : F.ok) : prR (exR F v) = v.val F := ex_val ok
theorem ite_abs (c : Int) : (if c < 0 then -c else c).natAbs = c.natAbs := by split <;> omega
theorem Pe.pr (h : Pe r) (g : Pe t) (hz : o = .div → t.1 ≠ 0) : Pw (o.pr r t) := by
  obtain ⟨a, b⟩ := r
  obtain ⟨c, d⟩ := t
  have e1 : (a * d).natAbs < 2 ^ 320 := mul_abs h.n g.d (by decide)
  have e2 : (c * b).natAbs < 2 ^ 320 := mul_abs g.n h.d (by decide)
  have e3 : (b * d).natAbs < 2 ^ 900 := mul_abs h.d g.d (by decide)
  have e4 : ((0 - c) * b).natAbs < 2 ^ 320 := mul_abs (m := 190) (by simpa using g.n) h.d (by decide)
  have p3 : 0 < b * d := Int.mul_pos h.pos g.pos
  have e5 : (2 : Nat) ^ 900 = 2 ^ 580 * 2 ^ 320 := by decide
  have e6 : 2 ≤ (2 : Nat) ^ 580 := by decide
  have e7 : 2 * 2 ^ 320 ≤ (2 : Nat) ^ 900 := by rw [e5]; exact Nat.mul_le_mul_right _ e6
  cases o
  · exact ⟨p3, by show (a * d + c * b).natAbs < 2 ^ 900; omega, e3⟩
  · exact ⟨p3, by show (a * d + (0 - c) * b).natAbs < 2 ^ 900; omega, e3⟩
  · exact ⟨p3, mul_abs h.n g.n (by decide), e3⟩
  · have hc : c ≠ 0 := hz rfl
    refine ⟨Int.mul_pos h.pos (by split <;> omega), mul_abs (m := 320) (n := 2) e1 (by split <;> decide) (by decide), mul_abs (n := 190) h.d (by rw [ite_abs]; exact g.n) (by decide)⟩
theorem op4_lo (hx : x1 ≤ x2) (hy : y1 ≤ y2) : lo4 (o.op x1 y1) (o.op x1 y2) (o.op x2 y1) (o.op x2 y2) = o.lo x1 x2 y1 y2 := by
  cases o
  · show lo4 (x1 + y1) (x1 + y2) (x2 + y1) (x2 + y2) = x1 + y1
    unfold lo4
    simp only [List.foldl, least]
    (repeat' split) <;> grind
  · show lo4 (x1 + -y1) (x1 + -y2) (x2 + -y1) (x2 + -y2) = x1 + -y2
    unfold lo4
    simp only [List.foldl, least]
    (repeat' split) <;> grind
  · rfl
  · rfl
theorem op4_hi (hx : x1 ≤ x2) (hy : y1 ≤ y2) : hi4 (o.op x1 y1) (o.op x1 y2) (o.op x2 y1) (o.op x2 y2) = o.hi x1 x2 y1 y2 := by
  cases o
  · show hi4 (x1 + y1) (x1 + y2) (x2 + y1) (x2 + y2) = x2 + y2
    unfold hi4
    simp only [List.foldl, most]
    (repeat' split) <;> grind
  · show hi4 (x1 + -y1) (x1 + -y2) (x2 + -y1) (x2 + -y2) = x2 + -y1
    unfold hi4
    simp only [List.foldl, most]
    (repeat' split) <;> grind
  · rfl
  · rfl
theorem made_st (hr : Pe r) (ht : Pe t) {rows : List D} {f i j e1 e2 : Option D} (hl : rows.length < 100)
    (h : Dn.nx [f, some (.str o.nm), i, j, e1, e2, some (.ref p), some (.int r.1), some (.int r.2), some (.int t.1), some (.int t.2)] (M.put p (.lst (rows ++ [prD (o.pr r t)])))) :
    dSs Γ xm ir_law_made_b1 W Dn [f, some (.str o.nm), i, j, e1, e2, some (.ref p), some (.int r.1), some (.int r.2), some (.int t.1), some (.int t.2)] (M.put p (.lst rows)) := by
  have s1 := hr.n; have s2 := hr.d; have s3 := ht.n; have s4 := ht.d
  have t1 : (r.1 * t.2).natAbs < 2 ^ 320 := mul_abs s1 s4 (by decide)
  exact made_step hl (mulOk s1 s4 (by decide)) (mulOk s3 s2 (by decide)) (mulOk s2 s4 (by decide)) (mulOk s1 s3 (by decide)) (mulOk t1 (n := 2) (by decide) (by decide)) (mulOk t1 (n := 2) (by decide) (by decide))
    (mulOk (m := 190) (by simpa using s3) s2 (by decide)) (mulOk s2 s3 (by decide)) (mulOk s2 (n := 190) (by simpa using s3) (by decide)) h
theorem made_b2 {t1 t2 : Int × Int} (hr : Pe r) (h1 : Pe t1) (h2 : Pe t2) {rows : List D} {f i j e1 o9 o10 : Option D} (hl : rows.length < 50)
    (h : ∀ o9 o10, Dn.nx [f, some (.str o.nm), i, j, e1, some (.tup [prD t1, prD t2]), some (.ref p), some (.int r.1), some (.int r.2), o9, o10] (M.put p (.lst (rows ++ [prD (o.pr r t1), prD (o.pr r t2)])))) :
    dSs Γ xm ir_law_made_b2 W Dn [f, some (.str o.nm), i, j, e1, some (.tup [prD t1, prD t2]), some (.ref p), some (.int r.1), some (.int r.2), o9, o10] (M.put p (.lst rows)) := by
  have sq : ∀ (r : Int × Int) (M : Mem), sqM M (prD r) = some [.int r.1, .int r.2] := fun _ _ => rfl
  unfold ir_law_made_b2
  simp [for_cons, sq]
  intro _
  refine made_st hr h1 (by omega) ?_
  simp [for_cons, sq]
  refine made_st hr h2 (by simp; omega) ?_
  simp [for_cons, sq]
  exact h _ _
theorem en_rg (io : IvOk F a b) : (enD F (some (a, b)) = .non ∧ F.rg (some (a, b)) = none) ∨ (a.fin = true ∧ b.fin = true ∧ enD F (some (a, b)) = .tup [prD (exR F a), prD (exR F b)] ∧ F.rg (some (a, b)) = some (a.val F, b.val F)) := by
  have fa := nn_fin io.ln
  have fb := nn_fin io.hn
  have e1 : enD F (some (a, b)) = if a.isInf = true ∨ b.isInf = true then .non else .tup [exP F a, exP F b] := rfl
  have e2 : F.rg (some (a, b)) = if a.fin = true ∧ b.fin = true then some (a.val F, b.val F) else none := rfl
  by_cases c : a.isInf = true ∨ b.isInf = true
  · refine .inl ⟨by rw [e1, if_pos c], ?_⟩
    rw [e2, if_neg]
    rintro ⟨z1, z2⟩
    rcases c with c | c
    · rw [c] at fa; rw [fa] at z1; cases z1
    · rw [c] at fb; rw [fb] at z2; cases z2
  · have c1 : a.isInf = false := by simp at c; exact c.1
    have c2 : b.isInf = false := by simp at c; exact c.2
    rw [c1] at fa; rw [c2] at fb
    refine .inr ⟨fa, fb, ?_, ?_⟩
    · rw [e1, if_neg c]; rfl
    · rw [e2, if_pos ⟨fa, fb⟩]
theorem ex_le0 (ok : F.ok) : (v.exN F ≤ 0) = (v.val F ≤ 0) := by
  have h := exD_pos (v := v) ok
  rw [← ex_val ok]
  have := dle (a := v.exN F) (c := 0) h (show (0 : Int) < 1 by decide)
  simp at this
  exact propext this.symm
theorem ex_ge0 (ok : F.ok) : (0 ≤ v.exN F) = (0 ≤ v.val F) := by
  have h := exD_pos (v := v) ok
  rw [← ex_val ok]
  have := dle (a := 0) (c := v.exN F) (show (0 : Int) < 1 by decide) h
  simp at this
  exact propext this.symm
theorem ex_eq0 (ok : F.ok) : (v.exN F = 0) = (v.val F = 0) := by
  have h1 := ex_le0 (v := v) ok
  have h2 := ex_ge0 (v := v) ok
  refine propext ⟨fun z => ?_, fun z => ?_⟩
  · exact Rat.le_antisymm (by rw [← h1, z]; exact Int.le_refl _) (by rw [← h2, z]; exact Int.le_refl _)
  · rw [z] at h1 h2
    have := h1.mpr Rat.le_refl
    have := h2.mpr Rat.le_refl
    omega
def φ_law_made : DSp := fun l M Q _ => match l with
  | [f, .str w, d1, d2] => onF (fun F => F.wd ∧ ∃ (o : Wd) (i j : Iv), w = o.nm ∧ d1 = ivD i ∧ d2 = ivD j ∧ i.ok F ∧ j.ok F ∧ Q (ivD (F.made o i j)) M) f
  | _ => False
theorem law_made_ok (wd : F.wd) (io : i.ok F) (jo : j.ok F) (h : Q (ivD (F.made o i j)) M) : φ_law_made [fmD F, .str o.nm, ivD i, ivD j] M Q E := ⟨F, rfl, wd.ok, wd, o, i, j, rfl, rfl, rfl, io, jo, h⟩
theorem b_law_made (g1 : Γ[101]? = some φ_law_ends) (g2 : Γ[102]? = some φ_law_around) (h : φ_law_made ds M Q E) : dSs Γ xm ir_law_made (endW E) (endS Q) (startD 11 ds) M := by
  unfold φ_law_made at h
  split at h
  case h_2 => exact h.elim
  obtain ⟨F, rfl, ok, wd, o, i, j, rfl, rfl, rfl, io, jo, h⟩ := h
  unfold ir_law_made
  simp [startD]
  unfold Fm.made at h
  by_cases c : i = none ∨ j = none
  · rw [if_pos c] at h
    by_cases ci : i = none
    · rw [if_pos ci]; exact ends_rt h
    · rw [if_neg ci, if_pos (c.resolve_left ci)]; exact ends_rt h
  · rw [if_neg c] at h
    rw [if_neg (fun z => c (.inl z)), if_neg (fun z => c (.inr z))]
    unfold ir_law_made_k8
    simp [g1]
    refine law_ends_ok ok io ?_
    refine law_ends_ok ok jo ?_
    have hdv : (o.nm = "div") ↔ o = .div := by cases o <;> simp [Wd.nm]
    obtain ⟨a, b, rfl⟩ : ∃ a b, i = some (a, b) := by
      rcases i with _ | ⟨a, b⟩
      · exact absurd (.inl rfl) c
      · exact ⟨a, b, rfl⟩
    obtain ⟨e, d, rfl⟩ : ∃ a b, j = some (a, b) := by
      rcases j with _ | ⟨a, b⟩
      · exact absurd (.inr rfl) c
      · exact ⟨a, b, rfl⟩
    have io : IvOk F a b := io
    have jo : IvOk F e d := jo
    unfold ir_law_made_k7
    rcases en_rg jo with ⟨n1, n2⟩ | ⟨f1, f2, n1, n2⟩
    · rw [n2] at h
      rw [n1]
      have h' : Q (ivD wholeI) M := by
        rcases F.rg (some (a, b)) with _ | ⟨x1, x2⟩ <;> exact h
      have tail : dSs Γ xm ir_law_made_k6 (endW E) (endS Q) [some (fmD F), some (.str o.nm), some (ivD (some (a, b))), some (ivD (some (e, d))), some (enD F (some (a, b))), some .non, none, none, none, none, none] M := by
        unfold ir_law_made_k6
        rcases en_rg io with ⟨m1, m2⟩ | ⟨f3, f4, m1, m2⟩
        · rw [m1]; simp; exact ends_rt h'
        · rw [m1]; simp; exact ends_rt h'
      by_cases cd : o.nm = "div"
      · simp [cd] at tail ⊢; exact tail
      · simp [cd]; exact tail
    · rw [n2] at h
      rw [n1]
      simp only at h
      by_cases cz : o = .div ∧ e.val F = 0 ∧ d.val F = 0
      · rw [if_pos cz] at h
        obtain ⟨c1, c2, c3⟩ := cz
        simp [hdv.mpr c1, prD, exR, ex_eq0 ok, c2, c3]
        exact ends_rt h
      · rw [if_neg cz] at h
        have lx := fun f3 f4 => iv_val ok io f3 f4
        have ly := iv_val ok jo f1 f2
        have tail : dSs Γ xm ir_law_made_k6 (endW E) (endS Q) [some (fmD F), some (.str o.nm), some (ivD (some (a, b))), some (ivD (some (e, d))), some (enD F (some (a, b))), some (.tup [prD (exR F e), prD (exR F d)]), none, none, none, none, none] M := by
          unfold ir_law_made_k6
          rcases en_rg io with ⟨m1, m2⟩ | ⟨f3, f4, m1, m2⟩
          · rw [m2] at h
            rw [m1]; simp; exact ends_rt h
          · rw [m2] at h
            rw [m1]
            simp only at h
            have fin : (o = .div → nought (e.val F) (d.val F) = false) → Q (ivD (F.ard (o.lo (a.val F) (b.val F) (e.val F) (d.val F)) (o.hi (a.val F) (b.val F) (e.val F) (d.val F)))) M → dSs Γ xm ir_law_made_k5 (endW E) (endS Q) [some (fmD F), some (.str o.nm), some (ivD (some (a, b))), some (ivD (some (e, d))), some (.tup [prD (exR F a), prD (exR F b)]), some (.tup [prD (exR F e), prD (exR F d)]), none, none, none, none, none] M := fun hn h => by
              have pa := ex_pe wd io.lo
              have pb := ex_pe wd io.ho
              have pe := ex_pe wd jo.lo
              have pd := ex_pe wd jo.ho
              have ze : o = .div → (exR F e).1 ≠ 0 := fun z z' => (nought_ne ly (hn z)).1 (by rw [← ex_eq0 ok]; exact z')
              have zd : o = .div → (exR F d).1 ≠ 0 := fun z z' => (nought_ne ly (hn z)).2 (by rw [← ex_eq0 ok]; exact z')
              rw [← op4_lo (lx f3 f4) ly, ← op4_hi (lx f3 f4) ly, ← ex_pr ok, ← ex_pr ok, ← ex_pr ok, ← ex_pr ok, ← Wd.pr_val pa.pos pe.pos ze, ← Wd.pr_val pa.pos pd.pos zd, ← Wd.pr_val pb.pos pe.pos ze, ← Wd.pr_val pb.pos pd.pos zd] at h
              unfold ir_law_made_k5
              simp
              intro p hp
              unfold ir_law_made_k4
              have sq : ∀ (r : Int × Int) (M : Mem), sqM M (prD r) = some [.int r.1, .int r.2] := fun _ _ => rfl
              simp [for_cons, sq]
              intro _
              refine made_b2 pa pe pd (by simp) fun _ _ => ?_
              simp [for_cons, sq]
              refine made_b2 pb pe pd (by simp) fun _ _ => ?_
              simp [for_cons, sq]
              unfold ir_law_made_k3
              simp [g2]
              refine ⟨F, rfl, ok, o.pr (exR F a) (exR F e), [o.pr (exR F a) (exR F d), o.pr (exR F b) (exR F e), o.pr (exR F b) (exR F d)], .inr ⟨p, rfl, by rw [Mem.put_same]; rfl⟩, ?_, ?_⟩
              · intro r hr
                simp at hr
                rcases hr with rfl | rfl | rfl | rfl
                · exact pa.pr pe ze
                · exact pa.pr pd zd
                · exact pb.pr pe ze
                · exact pb.pr pd zd
              · exact ⟨M, Mem.le_put hp, h⟩
            by_cases cd : o = .div
            · have cd' := hdv.mpr cd
              by_cases q1 : e.val F ≤ 0
              · by_cases q2 : 0 ≤ d.val F
                · have hn : nought (e.val F) (d.val F) = true := by simp [nought, q1, q2]
                  rw [if_pos ⟨cd, hn⟩] at h
                  simp [cd', prD, exR, ex_le0 ok, ex_ge0 ok, q1, q2]
                  exact ends_rt h
                · have hn : nought (e.val F) (d.val F) = false := by simp [nought, q2]
                  rw [if_neg (by simp [hn])] at h
                  have fin := fin (fun _ => hn) h
                  simp only [cd'] at fin ⊢
                  simp [prD, exR, ex_le0 ok, ex_ge0 ok, q1, q2] at fin ⊢
                  exact fin
              · have hn : nought (e.val F) (d.val F) = false := by simp [nought, q1]
                rw [if_neg (by simp [hn])] at h
                have fin := fin (fun _ => hn) h
                simp only [cd'] at fin ⊢
                simp [prD, exR, ex_le0 ok, ex_ge0 ok, q1] at fin ⊢
                exact fin
            · have cd' : ¬ o.nm = "div" := fun z => cd (hdv.mp z)
              rw [if_neg (by simp [cd])] at h
              simp [cd']
              exact fin (fun z => absurd z cd) h
        by_cases cd : o = .div
        · have cd' := hdv.mpr cd
          simp only [cd'] at tail ⊢
          by_cases c2 : e.val F = 0
          · have c3 : ¬ d.val F = 0 := fun z => cz ⟨cd, c2, z⟩
            simp [prD, exR, ex_eq0 ok, c2, c3] at tail ⊢
            exact tail
          · simp [prD, exR, ex_eq0 ok, c2] at tail ⊢
            exact tail
        · have cd' : ¬ o.nm = "div" := fun z => cd (hdv.mp z)
          simp [cd']
          exact tail
end
end U
end
section
set_option maxHeartbeats 400000
namespace U
open PySem PySem.Spec PyProof.Rows L2 DL
section
variable {F G : Fm} {v u : Va} {md : Md} {x y z x1 x2 y1 y2 : Rat} {s : Int} {i j : Iv} {a b c d : Va} {o : Wd} {r t : Int × Int}
theorem ard_ok (ok : F.ok) (h : x ≤ y) : (F.ard x y).ok F := by
  have o1 : (F.rnd .down x 1).1.ok F := rnd_ok ok (.inl rfl)
  have o2 : (F.rnd .up y 1).1.ok F := rnd_ok ok (.inl rfl)
  have n1 : (F.rnd .down x 1).1 ≠ .nan := rnd_nn
  have n2 : (F.rnd .up y 1).1 ≠ .nan := rnd_nn
  have d1 := dn_spec (x := x) ok (s := 1) (.inl rfl)
  have d2 := up_spec (x := y) ok (s := 1) (.inl rfl)
  refine ⟨o1, o2, n1, n2, ?_, ?_, (rk_le ok o1 o2 n1 n2).mpr ?_⟩
  · rcases d1 with e | ⟨f, _⟩
    · rw [e]; simp
    · intro z; rw [z] at f; cases f
  · rcases d2 with e | ⟨f, _⟩
    · rw [e]; simp
    · intro z; rw [z] at f; cases f
  · unfold Va.le
    rcases d1 with e | ⟨f, l⟩
    · rw [e]
      rcases d2 with e2 | ⟨f2, l2⟩
      · rw [e2]; simp [Va.sgI]
      · rw [fin_sg f2]; simp [Va.sgI]
    · rw [fin_sg f]
      rcases d2 with e2 | ⟨f2, l2⟩
      · rw [e2]; simp [Va.sgI]
      · rw [fin_sg f2]
        simp
        exact Rat.le_trans l (Rat.le_trans h l2)
theorem ard_has (ok : F.ok) (h1 : x ≤ z) (h2 : z ≤ y) : F.hasB (F.ard x y) z = true := by
  have d1 := dn_spec (x := x) ok (s := 1) (.inl rfl)
  have d2 := up_spec (x := y) ok (s := 1) (.inl rfl)
  have hh : F.hasB (F.ard x y) z = ((!(F.rnd .down x 1).1.fin || decide ((F.rnd .down x 1).1.val F ≤ z)) && (!(F.rnd .up y 1).1.fin || decide (z ≤ (F.rnd .up y 1).1.val F))) := rfl
  rw [hh]
  simp only [Bool.and_eq_true, Bool.or_eq_true]
  constructor
  · rcases d1 with e | ⟨f, l⟩
    · left; rw [e]; rfl
    · right; exact decide_eq_true (Rat.le_trans l h1)
  · rcases d2 with e | ⟨f, l⟩
    · left; rw [e]; rfl
    · right; exact decide_eq_true (Rat.le_trans h2 l)
theorem whole_ok (ok : F.ok) : wholeI.ok F := by
  have o1 : (Va.inf (-1)).ok F := .inr rfl
  have o2 : (Va.inf 1).ok F := .inl rfl
  refine ⟨o1, o2, by simp, by simp, by simp, by simp, (rk_le ok o1 o2 (by simp) (by simp)).mpr ?_⟩
  unfold Va.le
  simp [Va.sgI]
theorem made_okI (ok : F.ok) (io : i.ok F) (jo : j.ok F) : (F.made o i j).ok F := by
  unfold Fm.made
  by_cases c : i = none ∨ j = none
  · rw [if_pos c]; trivial
  · rw [if_neg c]
    cases hi : F.rg i with
    | none =>
      cases hj : F.rg j with
      | none => exact whole_ok ok
      | some q =>
        obtain ⟨y1, y2⟩ := q
        simp only
        split
        · trivial
        · exact whole_ok ok
    | some p =>
      obtain ⟨x1, x2⟩ := p
      cases hj : F.rg j with
      | none => exact whole_ok ok
      | some q =>
        obtain ⟨y1, y2⟩ := q
        simp only
        split
        · trivial
        · split
          · exact whole_ok ok
          · exact ard_ok ok (lo_hi (rg_le ok io hi) (rg_le ok jo hj))
theorem pkV_ok (io : a.ok F) (jo : b.ok F) : (F.pick a b).ok F := by unfold Fm.pick; split <;> assumption
theorem pkL_ok (io : a.ok F) (jo : b.ok F) : (F.pickL a b).ok F := by unfold Fm.pickL; split <;> assumption
theorem pick_ne (io : a ≠ v) (jo : b ≠ v) : F.pick a b ≠ v := by unfold Fm.pick; split <;> assumption
theorem pickL_ne (io : a ≠ v) (jo : b ≠ v) : F.pickL a b ≠ v := by unfold Fm.pickL; split <;> assumption
theorem pick_rk : F.rk (F.pick a b) = max (F.rk a) (F.rk b) := by unfold Fm.pick; split <;> omega
theorem pickL_rk : F.rk (F.pickL a b) = min (F.rk a) (F.rk b) := by unfold Fm.pickL; split <;> omega
theorem met_okI (io : i.ok F) (jo : j.ok F) : (F.met i j).ok F := by
  rcases i with _ | ⟨a, b⟩
  · rcases j with _ | ⟨c, d⟩ <;> trivial
  · rcases j with _ | ⟨c, d⟩
    · trivial
    · have io : IvOk F a b := io
      have jo : IvOk F c d := jo
      show Iv.ok F (if _ then _ else _)
      split
      · rename_i h
        exact ⟨pkV_ok io.lo jo.lo, pkL_ok io.ho jo.ho, pick_ne io.ln jo.ln, pickL_ne io.hn jo.hn, pick_ne io.l1 jo.l1, pickL_ne io.h1 jo.h1, h⟩
      · trivial
theorem hull_okI (io : i.ok F) (jo : j.ok F) : (F.hull i j).ok F := by
  rcases i with _ | ⟨a, b⟩
  · exact jo
  · rcases j with _ | ⟨c, d⟩
    · exact io
    · have io : IvOk F a b := io
      have jo : IvOk F c d := jo
      have := io.le; have := jo.le
      refine ⟨pkL_ok io.lo jo.lo, pkV_ok io.ho jo.ho, pickL_ne io.ln jo.ln, pick_ne io.hn jo.hn, pickL_ne io.l1 jo.l1, pick_ne io.h1 jo.h1, ?_⟩
      rw [pick_rk, pickL_rk]; omega
theorem alike_self : F.alike i i = true := by rcases i with _ | ⟨a, b⟩ <;> simp [Fm.alike]
/-- the ends that the law takes -/
def Fm.lowL (F : Fm) (a c : Va) : Va := if F.rk a ≤ F.rk c then c else a
def Fm.highL (F : Fm) (b d : Va) : Va := if F.rk b ≤ F.rk d then b else d
def Fm.bothL (F : Fm) (a b c d : Va) : Iv := if F.rk (F.lowL a c) ≤ F.rk (F.highL b d) then some (F.lowL a c, F.highL b d) else none
def Fm.wholeL (F : Fm) (a b c d : Va) : Iv := some (if F.rk a ≤ F.rk c then a else c, if F.rk b ≤ F.rk d then d else b)
theorem lowL_rk : F.rk (F.lowL a b) = max (F.rk a) (F.rk b) := by unfold Fm.lowL; split <;> omega
theorem highL_rk : F.rk (F.highL a b) = min (F.rk a) (F.rk b) := by unfold Fm.highL; split <;> omega
theorem lowL_ok (io : a.ok F) (jo : b.ok F) : (F.lowL a b).ok F := by unfold Fm.lowL; split <;> assumption
theorem highL_ok (io : a.ok F) (jo : b.ok F) : (F.highL a b).ok F := by unfold Fm.highL; split <;> assumption
theorem lowL_ne (io : a ≠ v) (jo : b ≠ v) : F.lowL a b ≠ v := by unfold Fm.lowL; split <;> assumption
theorem highL_ne (io : a ≠ v) (jo : b ≠ v) : F.highL a b ≠ v := by unfold Fm.highL; split <;> assumption
theorem bothL_ok (io : IvOk F a b) (jo : IvOk F c d) : (F.bothL a b c d).ok F := by
  unfold Fm.bothL
  split
  · rename_i h
    exact ⟨lowL_ok io.lo jo.lo, highL_ok io.ho jo.ho, lowL_ne io.ln jo.ln, highL_ne io.hn jo.hn, lowL_ne io.l1 jo.l1, highL_ne io.h1 jo.h1, h⟩
  · trivial
theorem bothL_alike : F.alike (F.met (some (a, b)) (some (c, d))) (F.bothL a b c d) = true := by
  have e : F.met (some (a, b)) (some (c, d)) = if F.rk (F.pick a c) ≤ F.rk (F.pickL b d) then some (F.pick a c, F.pickL b d) else none := rfl
  rw [e]
  unfold Fm.bothL
  rw [pick_rk, pickL_rk, lowL_rk, highL_rk]
  by_cases h : max (F.rk a) (F.rk c) ≤ min (F.rk b) (F.rk d)
  · rw [if_pos h, if_pos h]
    simp [Fm.alike, pick_rk, pickL_rk, lowL_rk, highL_rk]
  · rw [if_neg h, if_neg h]
    rfl
theorem wholeL_ok (io : IvOk F a b) (jo : IvOk F c d) : (F.wholeL a b c d).ok F := by
  have h1 := io.le; have h2 := jo.le
  refine ⟨?_, ?_, ?_, ?_, ?_, ?_, ?_⟩
  · split; exact io.lo; exact jo.lo
  · split; exact jo.ho; exact io.ho
  · split; exact io.ln; exact jo.ln
  · split; exact jo.hn; exact io.hn
  · split; exact io.l1; exact jo.l1
  · split; exact jo.h1; exact io.h1
  · split <;> split <;> omega
theorem wholeL_alike : F.alike (F.hull (some (a, b)) (some (c, d))) (F.wholeL a b c d) = true := by
  have e : F.hull (some (a, b)) (some (c, d)) = some (F.pickL a c, F.pick b d) := rfl
  rw [e]
  unfold Fm.wholeL
  simp only [Fm.alike, pick_rk, pickL_rk, decide_eq_true_eq]
  constructor <;> split <;> omega
theorem mid_lin (h1 : x1 ≤ x) (h2 : x ≤ x2) (q : Rat) : min (x1 * q) (x2 * q) ≤ x * q ∧ x * q ≤ max (x1 * q) (x2 * q) := by
  rcases (Rat.le_total : 0 ≤ q ∨ q ≤ 0) with h | h
  · have a1 := Rat.mul_le_mul_of_nonneg_right h1 h
    have a2 := Rat.mul_le_mul_of_nonneg_right h2 h
    constructor <;> grind
  · have h' : 0 ≤ -q := by grind
    have a1 := Rat.mul_le_mul_of_nonneg_right h1 h'
    have a2 := Rat.mul_le_mul_of_nonneg_right h2 h'
    constructor <;> grind
theorem in_range (h1 : x1 ≤ x) (h2 : x ≤ x2) (hy : y1 ≤ y2) (hq : y = y1 ∨ y = y2) : o.lo x1 x2 y1 y2 ≤ o.op x y ∧ o.op x y ≤ o.hi x1 x2 y1 y2 := by
  have hx := Rat.le_trans h1 h2
  cases o
  · show x1 + y1 ≤ x + y ∧ x + y ≤ x2 + y2
    rcases hq with rfl | rfl <;> constructor <;> grind
  · show x1 + -y2 ≤ x + -y ∧ x + -y ≤ x2 + -y1
    rcases hq with rfl | rfl <;> constructor <;> grind
  · have m := mid_lin h1 h2 y
    have l := lo4_le (x1 * y1) (x1 * y2) (x2 * y1) (x2 * y2)
    have g := hi4_ge (x1 * y1) (x1 * y2) (x2 * y1) (x2 * y2)
    show lo4 _ _ _ _ ≤ x * y ∧ x * y ≤ hi4 _ _ _ _
    rcases hq with rfl | rfl <;> constructor <;> grind
  · have m := mid_lin h1 h2 y⁻¹
    have l := lo4_le (x1 / y1) (x1 / y2) (x2 / y1) (x2 / y2)
    have g := hi4_ge (x1 / y1) (x1 / y2) (x2 / y1) (x2 / y2)
    show lo4 _ _ _ _ ≤ x / y ∧ x / y ≤ hi4 _ _ _ _
    simp only [Rat.div_def] at l g ⊢
    rcases hq with rfl | rfl <;> constructor <;> grind
end
end U
end
section
set_option maxHeartbeats 400000
namespace U
open PySem PySem.Spec PyProof.Rows L2 DL
/-- the contracts that law calls -/
structure G61 (Γ : List DSp) : Prop where
  g22 : Γ[22]? = some φ_law_draws
  g23 : Γ[23]? = some φ_law_draw
  g24 : Γ[24]? = some (φ_law_same 4)
  g36 : Γ[36]? = some φ_is_part
  g51 : Γ[51]? = some φ_rounded3
  g53 : Γ[53]? = some φ_is_tie
  g56 : Γ[56]? = some φ_twice
  g57 : Γ[57]? = some φ_is_slip
  g58 : Γ[58]? = some φ_slips_at
  g59 : Γ[59]? = some φ_by_odd
  g60 : Γ[60]? = some φ_odd_is_safe
  g63 : Γ[63]? = some φ_law_mode
  g66 : Γ[66]? = some φ_law_round
  g67 : Γ[67]? = some φ_law_exact
  g68 : Γ[68]? = some φ_law_number
  g72 : Γ[72]? = some φ_law_few
  g73 : Γ[73]? = some φ_law_into
  g74 : Γ[74]? = some φ_law_fraction
  g75 : Γ[75]? = some φ_law_pick
  g76 : Γ[76]? = some φ_law_wide
  g78 : Γ[78]? = some φ_law_part
  g79 : Γ[79]? = some φ_law_tie
structure Xs (x : Rat) : Prop where
  n : x.num.natAbs < 2 ^ 200
  d : x.den < 2 ^ 200
theorem Xs.up {x : Rat} (h : Xs x) : ab x < pw (2 : Nat) 900 := by
  have h1 := le_num (ab_nn x)
  rw [ab_num] at h1
  have h2 : (((x.num.natAbs : Nat) : Int) : Rat) < pw (2 : Nat) (900 : Nat) := by
    rw [pw_nat, Rat.intCast_lt_intCast]
    have := pow_mono h.n (show 200 ≤ 900 by decide)
    omega
  exact rle_lt h1 h2
theorem Xs.nm {x : Rat} (h : Xs x) : Nm (ab x) := by
  refine ⟨⟨?_, ?_⟩, h.up⟩
  · rw [ab_num]
    have := pow_mono h.n (show 200 ≤ 3900 by decide)
    rw [Int.natAbs_natCast]
    exact this
  · rw [ab_den]; exact pow_mono h.d (by decide)
theorem Xs.lw {x : Rat} (h : Xs x) : Lw x.num x.den := by
  have := x.den_pos
  refine ⟨by omega, pow_mono h.n (by decide), by rw [Int.natAbs_natCast]; exact pow_mono h.d (by decide), ?_⟩
  rw [Rat.num_divInt_den]
  exact h.up
section
variable {Γ : List DSp} {xm : Nat → Nat → Option Bool} {ds : List D} {M : Mem} {Q : QD} {E : XD} {F G : Fm} {v u : Va} {md : Md} {x : Rat} {W : WD} {s : Int} {r : Va × Fl} {k : Bool → Prop} {Dn : En} {p : Addr}
theorem law_round_even {a b s : Int} : φ_law_round [fmD F, .str "even", .int a, .int b, .int s] M Q E = (F.ok ∧ Lw a b ∧ Q (resD (F.rnd .even (Rat.divInt a b) s)) M) := law_round_s (md := .even) (E := E)
theorem law_round_odd {a b s : Int} : φ_law_round [fmD F, .str "odd", .int a, .int b, .int s] M Q E = (F.ok ∧ Lw a b ∧ Q (resD (F.rnd .odd (Rat.divInt a b) s)) M) := law_round_s (md := .odd) (E := E)
section
variable {a0 a2 a8 a9 a10 a11 a12 a13 a15 a16 a17 a18 a20 : Option D}
theorem law_10 (G1 : G61 Γ) (ok : F.ok) (okG : G.ok) (xs : Xs x) (hs : F.oddSafe G = true → (F.byOdd G md x).1 = (F.rnd md x 1).1) (a19 : Option D)
    (rest : ∀ δ' : Ev, (∃ r : List (Option D), δ' = a0 :: some (.ref p) :: r ∧ r.length = 19) → Dn.nx δ' M) :
    dSs Γ xm ir_law_k61_k10 W Dn [a0, some (.ref p), a2, some (fmD F), some (fmD G), some (mdD md), some (.int x.num), some (.int x.den), a8, a9, a10, a11, a12, a13, some (resD (F.rnd md x 1)), a15, a16, a17, a18, a19, some (.bl (F.oddSafe G))] M := by
  have er : D.tup [.int x.num, .int x.den] = rt x := rfl
  have nm := xs.nm
  unfold ir_law_k61_k10
  cases hb : F.oddSafe G with
  | false =>
    simp
    exact rest _ ⟨_, rfl, rfl⟩
  | true =>
    simp [er, G1.g59, ok, okG, nm, hs hb]
    exact rest _ ⟨_, rfl, rfl⟩
theorem law_12 (G1 : G61 Γ) (ok : F.ok) (okG : G.ok) (xs : Xs x) (hs : F.oddSafe G = true → (F.byOdd G md x).1 = (F.rnd md x 1).1) (hp : F.B = G.B → F.part G = F.subsB G)
    (rest : ∀ δ' : Ev, (∃ r : List (Option D), δ' = a0 :: some (.ref p) :: r ∧ r.length = 19) → Dn.nx δ' M) :
    dSs Γ xm ir_law_k61_k12 W Dn [a0, some (.ref p), a2, some (fmD F), some (fmD G), some (mdD md), some (.int x.num), some (.int x.den), a8, a9, a10, a11, a12, a13, some (resD (F.rnd md x 1)), a15, a16, a17, a18, some (.bl (F.subsB G)), some (.bl (F.oddSafe G))] M := by
  unfold ir_law_k61_k12
  simp [G1.g60, G1.g24, ok, okG]
  unfold ir_law_k61_k11
  by_cases hB : F.B = G.B
  · have hB' : (F.B : Int) = G.B := by omega
    simp [hB', G1.g36, G1.g24, ok, okG, hp hB]
    exact law_10 G1 ok okG xs hs _ rest
  · have hB' : ¬ (F.B : Int) = G.B := by omega
    simp [hB']
    exact law_10 G1 ok okG xs hs _ rest
theorem law_13 (G1 : G61 Γ) (ok : F.ok) (okG : G.ok) (xs : Xs x) (hs : F.oddSafe G = true → (F.byOdd G md x).1 = (F.rnd md x 1).1) (hp : F.B = G.B → F.part G = F.subsB G) (sf : Bool) (hsf : (sf && decide (F.H + F.p + 1 < G.H + G.p)) = F.oddSafe G)
    (rest : ∀ δ' : Ev, (∃ r : List (Option D), δ' = a0 :: some (.ref p) :: r ∧ r.length = 19) → Dn.nx δ' M) :
    dSs Γ xm ir_law_k61_k13 W Dn [a0, some (.ref p), a2, some (fmD F), some (fmD G), some (mdD md), some (.int x.num), some (.int x.den), a8, a9, a10, a11, a12, a13, some (resD (F.rnd md x 1)), a15, a16, a17, a18, some (.bl (F.subsB G)), some (.bl sf)] M := by
  have := law_12 (Γ := Γ) (xm := xm) (a0 := a0) (a2 := a2) (a8 := a8) (a9 := a9) (a10 := a10) (a11 := a11) (a12 := a12) (a13 := a13) (a15 := a15) (a16 := a16) (a17 := a17) (a18 := a18) (W := W) G1 ok okG xs hs hp rest
  rw [← hsf] at this
  unfold ir_law_k61_k13
  cases sf with
  | false => simpa using this
  | true => simpa using this
theorem safe_eq (hp : F.B = G.B → F.part G = F.subsB G) : F.oddSafe G = ((decide (F.B = G.B) && (decide (F.B % 2 = 0) && (F.subsB G && (F.tiny && (G.tiny && (decide ((F.p : Int) + 2 ≤ G.p) && decide (G.L ≤ F.L - 2))))))) && decide (F.H + F.p + 1 < G.H + G.p)) := by
  unfold Fm.oddSafe
  by_cases hB : F.B = G.B
  · rw [hp hB]
    by_cases h2 : F.B % 2 = 1
    · have : ¬ F.B % 2 = 0 := by omega
      simp [hB] at h2 ⊢
      simp [h2]
    · have h2' : F.B % 2 = 0 := by omega
      cases h3 : F.subsB G <;> cases h4 : F.tiny <;> cases h5 : G.tiny <;> simp [hB] at h2' ⊢ <;> simp [h2', Bool.and_assoc]
  · simp [hB]
theorem law_14 (G1 : G61 Γ) (ok : F.ok) (okG : G.ok) (xs : Xs x) (hs : F.oddSafe G = true → (F.byOdd G md x).1 = (F.rnd md x 1).1) (hp : F.B = G.B → F.part G = F.subsB G)
    (rest : ∀ δ' : Ev, (∃ r : List (Option D), δ' = a0 :: some (.ref p) :: r ∧ r.length = 19) → Dn.nx δ' M) :
    dSs Γ xm ir_law_k61_k14 W Dn [a0, some (.ref p), a2, some (fmD F), some (fmD G), some (mdD md), some (.int x.num), some (.int x.den), a8, a9, a10, a11, a12, a13, some (resD (F.rnd md x 1)), a15, a16, a17, a18, some (.bl (F.subsB G)), a20] M := by
  have se := safe_eq hp
  have t := fun sf h => law_13 (Γ := Γ) (xm := xm) (a0 := a0) (a2 := a2) (a8 := a8) (a9 := a9) (a10 := a10) (a11 := a11) (a12 := a12) (a13 := a13) (a15 := a15) (a16 := a16) (a17 := a17) (a18 := a18) (W := W) G1 ok okG xs hs hp sf h rest
  have e2 : ((F.B : Int).fmod 2 = 0) ↔ (F.B % 2 = 0) := by rw [fmod2]; omega
  have eB : ((F.B : Int) = G.B) ↔ F.B = G.B := by omega
  rw [se] at t
  unfold ir_law_k61_k14
  by_cases c1 : F.B = G.B
  · have c1' := eB.mpr c1
    by_cases c2 : F.B % 2 = 0
    · have c2' := e2.mpr c2
      rw [c1'] at c2'
      rw [decide_eq_true c1, decide_eq_true c2] at t
      cases c3 : F.subsB G with
      | false =>
        rw [c3] at t
        simp -implicitDefEqProofs [c1', c2']
        exact t false rfl
      | true =>
        rw [c3] at t
        cases c4 : F.tiny with
        | false =>
          rw [c4] at t
          simp -implicitDefEqProofs [c1', c2', c4]
          exact t false rfl
        | true =>
          rw [c4] at t
          cases c5 : G.tiny with
          | false =>
            rw [c5] at t
            simp -implicitDefEqProofs [c1', c2', c4, c5]
            exact t false rfl
          | true =>
            rw [c5] at t
            by_cases c6 : (F.p : Int) + 2 ≤ G.p
            · rw [decide_eq_true c6] at t
              simp -implicitDefEqProofs [c1', c2', c4, c5, c6]
              exact t _ rfl
            · rw [decide_eq_false c6] at t
              simp -implicitDefEqProofs [c1', c2', c4, c5, c6]
              exact t false rfl
    · have c2' : ¬ (G.B : Int).fmod 2 = 0 := by rw [← c1', e2]; exact c2
      rw [decide_eq_true c1, decide_eq_false c2] at t
      simp -implicitDefEqProofs [c1', c2']
      exact t false rfl
  · have c1' : ¬ (F.B : Int) = G.B := fun z => c1 (eB.mp z)
    rw [decide_eq_false c1] at t
    simp -implicitDefEqProofs [c1']
    exact t false rfl
end
end
end U
end
section
set_option maxHeartbeats 400000
namespace U
open PySem PySem.Spec PyProof.Rows L2 DL
section
variable {Γ : List DSp} {xm : Nat → Nat → Option Bool} {ds : List D} {M : Mem} {Q : QD} {E : XD} {F G : Fm} {v u : Va} {md : Md} {x : Rat} {W : WD} {s : Int} {r : Va × Fl} {k : Bool → Prop} {Dn : En} {p : Addr}
theorem kind_num : (v.kind = "num") = (v.isNum = true) := by
  cases v <;> simp [Va.kind, Va.isNum]
theorem isNum_fin (h : v.isNum = true) : v.fin = true := by cases v <;> first | rfl | cases h
section
variable {a0 a2 a8 a9 a10 a11 a12 a13 a15 a16 a17 a18 a19 a20 : Option D}
theorem law_17 (G1 : G61 Γ) (ok : F.ok) (okG : G.ok) (fw : F.fw) (xs : Xs x)
    (rest : ∀ δ' : Ev, (∃ r : List (Option D), δ' = a0 :: some (.ref p) :: r ∧ r.length = 19) → Dn.nx δ' M) :
    dSs Γ xm ir_law_k61_k17 W Dn [a0, some (.ref p), a2, some (fmD F), some (fmD G), some (mdD md), some (.int x.num), some (.int x.den), a8, a9, a10, a11, a12, a13, some (resD (F.rnd md x 1)), a15, a16, a17, a18, a19, a20] M := by
  have er : D.tup [.int x.num, .int x.den] = rt x := rfl
  have ex : Rat.divInt x.num x.den = x := Rat.num_divInt_den x
  have nm := xs.nm
  have lw := xs.lw
  have vo := rnd_ok (md := .odd) (x := x) (s := 1) okG (.inl rfl)
  unfold ir_law_k61_k17
  simp -implicitDefEqProofs [G1.g66, law_round_odd, okG, lw, ex]
  unfold ir_law_k61_k16
  simp -implicitDefEqProofs [er, G1.g59, G1.g73, G1.g24, ok, okG, nm, vo, Fm.byOdd]
  unfold ir_law_k61_k15
  simp -implicitDefEqProofs [G1.g78, ok, okG, fw]
  refine law_14 G1 ok okG xs (fun h => odd_law ok okG ?_) (part_eq ok okG) rest
  unfold Fm.oddSafe at h
  split at h
  · cases h
  · rename_i c
    simp only [not_or] at c
    simp only [Bool.and_eq_true, decide_eq_true_eq] at h
    exact ⟨by simpa using c.1, by have := c.2.1; omega, by simpa using c.2.2.2.1, by simpa using c.2.2.2.2, by omega, h.2.1, h.2.2⟩
theorem law_21 (G1 : G61 Γ) (ok : F.ok) (okG : G.ok) (fw : F.fw) (xs : Xs x)
    (rest : ∀ δ' : Ev, (∃ r : List (Option D), δ' = a0 :: some (.ref p) :: r ∧ r.length = 19) → Dn.nx δ' M) :
    dSs Γ xm ir_law_k61_k21 W Dn [a0, some (.ref p), a2, some (fmD F), some (fmD G), some (mdD md), some (.int x.num), some (.int x.den), a8, a9, a10, a11, a12, a13, some (resD (F.rnd md x 1)), a15, a16, a17, a18, a19, a20] M := by
  have er : D.tup [.int x.num, .int x.den] = rt x := rfl
  have ex : Rat.divInt x.num x.den = x := Rat.num_divInt_den x
  have nm := xs.nm
  have lw := xs.lw
  have vo := rnd_ok (md := .even) (x := x) (s := 1) okG (.inl rfl)
  unfold ir_law_k61_k21
  simp -implicitDefEqProofs [G1.g66, law_round_even, okG, lw, ex]
  have fin : ∀ (a16 : Option D), dSs Γ xm ir_law_k61_k18 W Dn [a0, some (.ref p), a2, some (fmD F), some (fmD G), some (mdD md), some (.int x.num), some (.int x.den), a8, a9, a10, a11, a12, a13, some (resD (F.rnd md x 1)), some (resD (G.rnd .even x 1)), a16, some (.bl (F.slips G x)), a18, a19, a20] M := fun a16 => by
    unfold ir_law_k61_k18
    simp -implicitDefEqProofs [er, G1.g58, G1.g24, ok, okG, nm]
    exact law_17 G1 ok okG fw xs rest
  unfold ir_law_k61_k20
  unfold Fm.slips at fin
  by_cases hn : (G.rnd .even x 1).1.isNum = true
  · simp only [if_pos hn] at fin
    simp -implicitDefEqProofs [kind_num, hn, G1.g67, okG, ok_wk okG vo, isNum_fin hn]
    unfold ir_law_k61_k19
    have z1 := ex_val (v := (G.rnd .even x 1).1) okG
    have p1 := exD_pos (v := (G.rnd .even x 1).1) okG
    obtain ⟨s1, s2⟩ := ex_sz okG vo
    have lw2 := ex_lw okG vo
    have ee : ((G.rnd .even x 1).1.exN G * x.den = x.num * (G.rnd .even x 1).1.exD G) ↔ (G.rnd .even x 1).1.val G = x := by
      rw [← z1]
      conv => rhs; rhs; rw [← ex]
      have := x.den_pos
      rw [Rat.divInt_eq_divInt_iff (by omega) (by omega)]
    generalize hN : (G.rnd .even x 1).1.exN G = n1 at *
    generalize hD : (G.rnd .even x 1).1.exD G = d1 at *
    have i1 : IntMulOk n1 x.den := mulOk s1 (n := 200) (by rw [Int.natAbs_natCast]; exact xs.d) (by decide)
    have i2 : IntMulOk x.num d1 := mulOk xs.n s2 (by decide)
    by_cases hv : n1 * x.den = x.num * d1
    · rw [decide_eq_true (ee.mp hv)] at fin
      simp -implicitDefEqProofs [kind_num, hn, i1, i2, hv]
      exact fin _
    · rw [decide_eq_false (fun z => hv (ee.mpr z))] at fin
      simp -implicitDefEqProofs [kind_num, hn, i1, i2, hv, G1.g79, ok, lw2]
      rw [z1]
      simpa using fin _
  · simp only [if_neg hn] at fin
    simp -implicitDefEqProofs [kind_num, hn]
    unfold ir_law_k61_k19
    simp -implicitDefEqProofs [kind_num, hn]
    exact fin _
theorem law_25 (G1 : G61 Γ) (ok : F.ok) (okG : G.ok) (fw : F.fw) (xs : Xs x)
    (rest : ∀ δ' : Ev, (∃ r : List (Option D), δ' = a0 :: some (.ref p) :: r ∧ r.length = 19) → Dn.nx δ' M) (a14 : Option D) :
    dSs Γ xm ir_law_k61_k25 W Dn [a0, some (.ref p), a2, some (fmD F), some (fmD G), some (mdD md), some (.int x.num), some (.int x.den), a8, a9, a10, a11, a12, a13, a14, a15, a16, a17, a18, a19, a20] M := by
  have er : D.tup [.int x.num, .int x.den] = rt x := rfl
  have ex : Rat.divInt x.num x.den = x := Rat.num_divInt_den x
  have nm := xs.nm
  have lw := xs.lw
  have vo := rnd_ok (md := md) (x := x) (s := 1) okG (.inl rfl)
  unfold ir_law_k61_k25
  simp -implicitDefEqProofs [G1.g66, okG, lw, ex]
  unfold ir_law_k61_k24
  simp -implicitDefEqProofs [G1.g73, G1.g66, ok, okG, lw, vo, ex]
  unfold ir_law_k61_k23
  simp -implicitDefEqProofs [er, G1.g56, G1.g51, G1.g24, ok, okG, nm, Fm.twice]
  unfold ir_law_k61_k22
  simp -implicitDefEqProofs [er, G1.g57, G1.g53, G1.g79, G1.g24, ok, okG, nm, lw, ex, Fm.twice]
  exact ⟨decide_eq_decide.mpr Iff.rfl, law_21 G1 ok okG fw xs rest⟩
end
end
end U
end
section
set_option maxHeartbeats 400000
namespace U
open PySem PySem.Spec PyProof.Rows L2 DL
theorem xs_small {x : Rat} (h1 : x.num.natAbs ≤ 5000) (h2 : x.den ≤ 1000) : Xs x := by
  have e1 : x.num.natAbs < 2 ^ 13 := by omega
  have e2 : x.den < 2 ^ 10 := by omega
  exact ⟨pow_mono e1 (by decide), pow_mono e2 (by decide)⟩
section
variable {Γ : List DSp} {xm : Nat → Nat → Option Bool} {ds : List D} {M : Mem} {Q : QD} {E : XD} {F G : Fm} {v u : Va} {md : Md} {x : Rat} {W : WD} {s : Int} {r : Va × Fl} {k : Bool → Prop} {Dn : En} {p : Addr} {o : MO}
section
variable {a0 a2 a8 a9 a10 a11 a12 a13 a14 a15 a16 a17 a18 a19 a20 : Option D}
/-- near a tie: the fraction in lowest terms -/
theorem law_9 (G1 : G61 Γ) (dr : F.dr) (hv : v.isNum = true) (vo : v.ok F) (ho : DrS o) (a6 a7 : Option D)
    (rest : ∀ (x : Rat) (o : MO) (a8 a9 a10 a11 a12 : Option D), Xs x → DrS o → Dn.nx [a0, some (.ref p), a2, some (fmD F), some (fmD G), some (mdD md), some (.int x.num), some (.int x.den), a8, a9, a10, a11, a12, a13, a14, a15, a16, a17, a18, a19, a20] (M.put p o)) :
    dSs Γ xm ir_law_k61_k9 W Dn [a0, some (.ref p), a2, some (fmD F), some (fmD G), some (mdD md), a6, a7, some (exP F v), a9, a10, a11, a12, a13, a14, a15, a16, a17, a18, a19, a20] (M.put p o) := by
  have ok := dr.ok
  have d1 := dr.l1; have d2 := dr.l2; have d3 := dr.h2; have d4 := dr.p4; have b4 := ok.b_lt
  have tl := dr.wd.top_lt
  have eh : D.tup [.str "num", .int 1, .int 1, .int F.L] = vaD (.num 1 1 F.L) := rfl
  have hw : Va.wk (.num 1 1 F.L) := ⟨.inl rfl, Nat.one_lt_two_pow (by decide), by omega, by omega⟩
  -- the sizes
  have so : (v.exN F).natAbs < 2 ^ 70 ∧ (v.exD F).natAbs < 2 ^ 20 ∧ 0 < v.exD F := by
    refine ⟨?_, ?_, exD_pos ok⟩
    · cases v with
      | num s m e =>
        obtain ⟨hs, l1, l2, l3, l4, l5⟩ := vo
        have hm : (s * (m : Int)).natAbs < 2 ^ 45 := by
          rw [Int.natAbs_mul, sgn_abs hs]
          omega
        exact mul_abs (m := 45) (n := 25) hm (bpow_lt b4 (by omega)) (by omega)
      | _ => cases hv
    · cases v with
      | num s m e =>
        obtain ⟨hs, l1, l2, l3, l4, l5⟩ := vo
        exact bpow_lt b4 (by omega)
      | _ => cases hv
  have sh : ((Va.num 1 1 F.L).exN F).natAbs < 2 ^ 20 ∧ ((Va.num 1 1 F.L).exD F).natAbs < 2 ^ 20 ∧ 0 < (Va.num 1 1 F.L).exD F := by
    refine ⟨?_, bpow_lt b4 (by omega), exD_pos ok⟩
    exact mul_abs (m := 2) (n := 5) (by decide) (bpow_lt b4 (by omega)) (by omega)
  obtain ⟨s1, s2, s3⟩ := so
  obtain ⟨s4, s5, s6⟩ := sh
  unfold ir_law_k61_k9
  simp -implicitDefEqProofs [eh, G1.g67, ok, hw, Va.fin]
  unfold exP
  generalize v.exN F = n1 at *
  generalize v.exD F = e1 at *
  generalize (Va.num 1 1 F.L).exN F = n2 at *
  generalize (Va.num 1 1 F.L).exD F = e2 at *
  have m2 : ∀ i : Int, IntMulOk 2 i := fun i => small_mul (by decide)
  have t1 : (2 * n1).natAbs < 2 ^ 72 := mul_abs (m := 2) (n := 70) (by decide) s1 (by decide)
  have t2 : (2 * e1).natAbs < 2 ^ 22 := mul_abs (m := 2) (n := 20) (by decide) s2 (by decide)
  have i1 : IntMulOk (2 * n1) e2 := mulOk t1 s5 (by decide)
  have i2 : IntMulOk n2 e1 := mulOk s4 s2 (by decide)
  have i3 : IntMulOk (2 * e1) e2 := mulOk t2 s5 (by decide)
  have t3 : (2 * n1 * e2).natAbs < 2 ^ 92 := mul_abs t1 s5 (by decide)
  have t4 : (n2 * e1).natAbs < 2 ^ 92 := mul_abs s4 s2 (by decide)
  have t5 : (2 * e1 * e2).natAbs < 2 ^ 42 := mul_abs t2 s5 (by decide)
  have p5 : 0 < 2 * e1 * e2 := Int.mul_pos (by omega) s6
  unfold ir_law_k61_k8
  simp -implicitDefEqProofs [m2, i1, i2, i3]
  have t6 : (2 * n1 * e2 + n2 * e1).natAbs < 2 ^ 93 := by
    have : (2 : Nat) ^ 93 = 2 ^ 92 + 2 ^ 92 := by decide
    omega
  generalize 2 * n1 * e2 + n2 * e1 = A at *
  generalize 2 * e1 * e2 = B at *
  unfold ir_law_k61_k7
  simp -implicitDefEqProofs [G1.g75]
  refine pick_m ho (by simp) (by simp) fun d hd o1 ho1 => ?_
  obtain ⟨c, rfl, hc⟩ : ∃ c : Int, d = .int c ∧ -1 ≤ c ∧ c ≤ 1 := by
    simp at hd
    rcases hd with rfl | rfl | rfl <;> exact ⟨_, rfl, by omega, by omega⟩
  have j1 : IntMulOk A 100000 := mulOk t6 (n := 17) (by decide) (by decide)
  have j2 : IntMulOk B 100000 := mulOk t5 (n := 17) (by decide) (by decide)
  have t7 : (A * 100000).natAbs < 2 ^ 110 := mul_abs (n := 17) t6 (by decide) (by decide)
  have t8 : (B * 100000).natAbs < 2 ^ 60 := mul_abs (n := 17) t5 (by decide) (by decide)
  have p8 : 0 < B * 100000 := Int.mul_pos p5 (by decide)
  unfold ir_law_k61_k6
  simp -implicitDefEqProofs [j1, j2]
  have t9 : (A * 100000 + c).natAbs < 2 ^ 111 := by
    have : (2 : Nat) ^ 111 = 2 ^ 110 + 2 ^ 110 := by decide
    omega
  generalize A * 100000 + c = a at *
  generalize B * 100000 = b at *
  unfold ir_law_k61_k5
  simp -implicitDefEqProofs
  unfold ir_law_k61_k4
  simp only [ss_cons, s_whl]
  refine euclid (st := fun x y => [a0, some (.ref p), a2, some (fmD F), some (fmD G), some (mdD md), some (.int a), some (.int b), _, _, _, some (.int x), some (.int y), a13, a14, a15, a16, a17, a18, a19, a20]) (by split <;> omega) (by omega) ?_ ?_ ?_
  · intro x y QT hq
    unfold ir_law_k61_c1
    simpa using hq
  · intro x y E' hy hn
    unfold ir_law_k61_b2
    simp [hy]
    exact hn
  · have gp : 0 < Int.gcd a b := Int.gcd_pos_of_ne_zero_right a (by omega)
    have gl : Int.gcd a b ≤ b.natAbs := Nat.gcd_le_right _ (by omega)
    have ge : Int.gcd (if a < 0 then -a else a) b = Int.gcd a b := by split <;> simp
    rw [ge]
    unfold ir_law_k61_k3
    have gs : ((Int.gcd a b : Nat) : Int).natAbs < 2 ^ 60 := by omega
    have c1 : CDv a (Int.gcd a b : Nat) := cdv (by omega) (pow_mono gs (by decide))
    have c2 : CDv b (Int.gcd a b : Nat) := cdv (by omega) (pow_mono gs (by decide))
    simp -implicitDefEqProofs [c1, c2]
    have q := quo_divInt (a := a) (b := b) (g := (Int.gcd a b : Nat)) (by omega) (by rw [if_neg (by omega)])
    unfold rt at q
    injection q with q
    injection q with q1 q2
    injection q1 with q1
    injection q2 with q2 _
    injection q2 with q2
    rw [q1, q2]
    have sz : Sz 200 (Rat.divInt a b) := divInt_sz (by omega) (pow_mono t9 (by decide)) (pow_mono t8 (by decide))
    exact rest _ _ _ _ _ _ _ ⟨sz.1, sz.2⟩ ho1
end
theorem len19 {r : List (Option D)} (h : r.length = 19) : ∃ a0 a1 a2 a3 a4 a5 a6 a7 a8 a9 a10 a11 a12 a13 a14 a15 a16 a17 a18, r = [a0, a1, a2, a3, a4, a5, a6, a7, a8, a9, a10, a11, a12, a13, a14, a15, a16, a17, a18] := by
  match r, h with
  | [a0, a1, a2, a3, a4, a5, a6, a7, a8, a9, a10, a11, a12, a13, a14, a15, a16, a17, a18], _ => exact ⟨a0, a1, a2, a3, a4, a5, a6, a7, a8, a9, a10, a11, a12, a13, a14, a15, a16, a17, a18, rfl⟩
theorem few_put (ho : DrS o) (h : ∀ F o, F.fw → DrS o → Q (fmD F) (M.put p o)) : φ_law_few [.ref p] (M.put p o) Q E := ⟨.put ho, fun F o' hF ho' => by rw [Mem.put_put]; exact h F o' hF ho'⟩
theorem wide_put (dr : F.dr) (ho : DrS o) (h : ∀ G o, Fm.wd G → DrS o → Q (fmD G) (M.put p o)) : φ_law_wide [.ref p, fmD F] (M.put p o) Q E := ⟨F, rfl, dr, .put ho, fun F o' hF ho' => by rw [Mem.put_put]; exact h F o' hF ho'⟩
theorem mode_put (ho : DrS o) (h : ∀ (md : Md) o, DrS o → Q (mdD md) (M.put p o)) : φ_law_mode [.ref p] (M.put p o) Q E := ⟨.put ho, fun F o' ho' => by rw [Mem.put_put]; exact h F o' ho'⟩
theorem frac_put (ho : DrS o) (h : ∀ (x : Rat) o, x.num.natAbs ≤ 5000 → x.den ≤ 1000 → DrS o → Q (rt x) (M.put p o)) : φ_law_fraction [.ref p] (M.put p o) Q E := ⟨.put ho, fun F o' a b ho' => by rw [Mem.put_put]; exact h F o' a b ho'⟩
theorem number_put (ok : F.ok) (wd : F.wd) (ho : DrS o) (h : ∀ (v : Va) o, v.isNum = true → v.ok F → DrS o → Q (vaD v) (M.put p o)) : φ_law_number [.ref p, fmD F] (M.put p o) Q E := ⟨F, rfl, ok, wd, .put ho, fun v o' a b ho' => by rw [Mem.put_put]; exact h v o' a b ho'⟩
theorem turn_61 (G1 : G61 Γ) {r : List (Option D)} {a0 : Option D} (hr : r.length = 19) (ho : DrS o)
    (rest : ∀ (δ' : Ev) (o' : MO), (∃ r : List (Option D), δ' = a0 :: some (.ref p) :: r ∧ r.length = 19) → DrS o' → Dn.nx δ' (M.put p o')) :
    dSs Γ xm ir_law_k61_b29 W Dn (a0 :: some (.ref p) :: r) (M.put p o) := by
  obtain ⟨a2, a3, a4, a5, a6, a7, a8, a9, a10, a11, a12, a13, a14, a15, a16, a17, a18, a19, a20, rfl⟩ := len19 hr
  unfold ir_law_k61_b29
  simp -implicitDefEqProofs [G1.g72]
  refine few_put ho fun F o1 hF ho1 => ?_
  have dr := hF.1
  have ok := dr.ok
  unfold ir_law_k61_k28
  simp -implicitDefEqProofs [G1.g76]
  refine wide_put dr ho1 fun G o2 hG ho2 => ?_
  have okG := hG.ok
  simp -implicitDefEqProofs [G1.g63]
  refine mode_put ho2 fun md o3 ho3 => ?_
  unfold ir_law_k61_k27
  simp -implicitDefEqProofs [G1.g74]
  refine frac_put ho3 fun x o4 x1 x2 ho4 => ?_
  simp -implicitDefEqProofs
  unfold ir_law_k61_k26
  simp -implicitDefEqProofs [G1.g23]
  refine draw_m (by omega) (by omega) ho4 fun v5 o5 h50 h51 ho5 => ?_
  by_cases h5 : v5 = 0
  · simp -implicitDefEqProofs [h5, G1.g68]
    refine number_put ok dr.wd ho5 fun v o6 hv vo ho6 => ?_
    simp -implicitDefEqProofs [G1.g67, ok, ok_wk ok vo, isNum_fin hv]
    refine law_9 G1 dr hv vo ho6 _ _ fun y o7 a8 a9 a10 a11 a12 hy ho7 => ?_
    exact law_25 G1 ok okG hF hy (fun δ' h => rest δ' o7 h ho7) _
  · simp -implicitDefEqProofs [h5]
    exact law_25 G1 ok okG hF (xs_small x1 x2) (fun δ' h => rest δ' o5 h ho5) _
theorem b_law_k61 (G1 : G61 Γ) (h : DL.φ_law ds M Q E) : dSs Γ xm ir_law_k61 (endW E) (endS Q) (startD 21 ds) M := by
  obtain ⟨ns, d, hn, rfl, hs, h⟩ := h
  unfold ir_law_k61
  simp [G1.g22, startD, φ_law_draws, hs]
  intro p hp
  unfold ir_law_k61_k31
  simp
  refine ⟨⟨by decide, by decide⟩, ?_⟩
  refine for_inv (fun ds δ M' => ∃ (o : MO) (r : List (Option D)), DrS o ∧ M' = M.put p o ∧ δ = some d :: some (.ref p) :: r ∧ r.length = 19) ?_ ?_ _ _ _ ⟨_, List.replicate 19 none, DrS.new ns, rfl, rfl, rfl⟩
  · rintro e ds δ M' ⟨o, r, ho, rfl, rfl, hr⟩
    refine ⟨trivial, fun nx hnx => ?_⟩
    obtain ⟨a0, a1, a2, a3, a4, a5, a6, a7, a8, a9, a10, a11, a12, a13, a14, a15, a16, a17, a18, rfl⟩ := len19 hr
    simp
    refine turn_61 G1 rfl ho ?_
    rintro δ' o' ⟨r, rfl, hr⟩ ho'
    exact hnx _ _ ⟨o', r, ho', rfl, rfl, hr⟩
  · rintro δ M' ⟨o, r, ho, rfl, rfl, hr⟩
    obtain ⟨a0, a1, a2, a3, a4, a5, a6, a7, a8, a9, a10, a11, a12, a13, a14, a15, a16, a17, a18, rfl⟩ := len19 hr
    refine ⟨trivial, ?_⟩
    unfold ir_law_k61_k30
    simp
    exact ends_rt (h _)
end
end U
end
section
set_option maxHeartbeats 400000
namespace U
open PySem PySem.Spec PyProof.Rows L2 DL
/-- the contracts that law calls -/
structure G68 (Γ : List DSp) : Prop where
  g22 : Γ[22]? = some φ_law_draws
  g23 : Γ[23]? = some φ_law_draw
  g24 : Γ[24]? = some (φ_law_same 4)
  g62 : Γ[62]? = some φ_law_format
  g68 : Γ[68]? = some φ_law_number
  g74 : Γ[74]? = some φ_law_fraction
  g75 : Γ[75]? = some φ_law_pick
  g87 : Γ[87]? = some φ_is_interval
  g89 : Γ[89]? = some φ_whole_line
  g90 : Γ[90]? = some φ_around
  g91 : Γ[91]? = some φ_has
  g93 : Γ[93]? = some φ_met
  g94 : Γ[94]? = some φ_hull
  g95 : Γ[95]? = some φ_is_inside
  g97 : Γ[97]? = some φ_made
  g99 : Γ[99]? = some φ_law_le
  g100 : Γ[100]? = some φ_law_interval
  g101 : Γ[101]? = some φ_law_ends
  g102 : Γ[102]? = some φ_law_around
  g103 : Γ[103]? = some φ_law_made
  g104 : Γ[104]? = some φ_law_has
  g105 : Γ[105]? = some φ_law_alike
theorem en_all {F : Fm} {i : Iv} (io : i.ok F) : (enD F i = .non ∧ F.rg i = none) ∨ ∃ a b, i = some (a, b) ∧ IvOk F a b ∧ a.fin = true ∧ b.fin = true ∧ enD F i = .tup [prD (exR F a), prD (exR F b)] ∧ F.rg i = some (a.val F, b.val F) := by
  rcases i with _ | ⟨a, b⟩
  · exact .inl ⟨rfl, rfl⟩
  · rcases en_rg (show IvOk F a b from io) with h | ⟨h1, h2, h3, h4⟩
    · exact .inl h
    · exact .inr ⟨a, b, rfl, io, h1, h2, h3, h4⟩
theorem made_has {F : Fm} {i j : Iv} {o : Wd} {x y x1 x2 y1 y2 : Rat} (ok : F.ok) (h1 : F.rg i = some (x1, x2)) (h2 : F.rg j = some (y1, y2)) (hy : y1 ≤ y2) (hn : o = .div → nought y1 y2 = false) (l1 : x1 ≤ x) (l2 : x ≤ x2) (hq : y = y1 ∨ y = y2) : F.hasB (F.made o i j) (o.op x y) = true := by
  have i1 : i ≠ none := fun z => by rw [z] at h1; cases h1
  have j1 : j ≠ none := fun z => by rw [z] at h2; cases h2
  have e : F.made o i j = F.ard (o.lo x1 x2 y1 y2) (o.hi x1 x2 y1 y2) := by
    unfold Fm.made
    rw [if_neg (by rintro (z | z); exact i1 z; exact j1 z), h1, h2]
    simp only
    rw [if_neg (fun z => (nought_ne hy (hn z.1)).1 z.2.1), if_neg (fun z => by rw [hn z.1] at z; cases z.2)]
  rw [e]
  obtain ⟨r1, r2⟩ := in_range (o := o) l1 l2 hy hq
  exact ard_has ok r1 r2
/-- a pair between the ends -/
structure Pm (r : Int × Int) (x1 x2 : Rat) : Prop where
  pos : 0 < r.2
  n : r.1.natAbs < 2 ^ 322
  d : r.2.natAbs < 2 ^ 262
  lo : x1 ≤ prR r
  hi : prR r ≤ x2
def midP (r t : Int × Int) : Int × Int := (r.1 * t.2 + t.1 * r.2, 2 * r.2 * t.2)
theorem mid_ok {r t : Int × Int} (hr : Pe r) (ht : Pe t) (h : prR r ≤ prR t) : Pm (midP r t) (prR r) (prR t) := by
  obtain ⟨a, b⟩ := r
  obtain ⟨c, d⟩ := t
  have s1 := hr.n; have s2 := hr.d; have s3 := ht.n; have s4 := ht.d
  have pb : 0 < b := hr.pos
  have pd : 0 < d := ht.pos
  have e1 : (a * d).natAbs < 2 ^ 320 := mul_abs s1 s4 (by decide)
  have e2 : (c * b).natAbs < 2 ^ 320 := mul_abs s3 s2 (by decide)
  have e3 : prR (midP (a, b) (c, d)) = (prR (a, b) + prR (c, d)) * Rat.divInt 1 2 := by
    show Rat.divInt (a * d + c * b) (2 * b * d) = (Rat.divInt a b + Rat.divInt c d) * Rat.divInt 1 2
    rw [Rat.divInt_add_divInt _ _ (by omega) (by omega), Rat.divInt_mul_divInt, Int.mul_one, Int.mul_comm (b * d) 2, Int.mul_assoc]
  have e4 : Rat.divInt 1 2 = 1 / 2 := by decide +kernel
  refine ⟨Int.mul_pos (by show 0 < 2 * b; omega) pd, ?_, mul_abs (m := 132) (mul_abs (m := 2) (n := 130) (by decide) s2 (by decide)) s4 (by decide), ?_, ?_⟩
  · show (a * d + c * b).natAbs < 2 ^ 322
    have : (2 : Nat) ^ 322 = 2 ^ 320 + 2 ^ 320 + 2 ^ 320 + 2 ^ 320 := by decide
    omega
  · rw [e3, e4]; grind
  · rw [e3, e4]; grind
theorem Pe.pm {r : Int × Int} {x1 x2 : Rat} (h : Pe r) (h1 : x1 ≤ prR r) (h2 : prR r ≤ x2) : Pm r x1 x2 := ⟨h.pos, pow_mono h.n (by decide), pow_mono h.d (by decide), h1, h2⟩
section
variable {Γ : List DSp} {xm : Nat → Nat → Option Bool} {ds : List D} {M : Mem} {Q : QD} {E : XD} {F G : Fm} {v u : Va} {md : Md} {x y x1 x2 y1 y2 : Rat} {W : WD} {s : Int} {k : Bool → Prop} {i j : Iv} {a b c d : Va} {w : Wd} {p : Addr} {r t : Int × Int} {Dn : En} {o : MO}
theorem idx_two (r t : Int × Int) {v : Int} (h0 : 0 ≤ v) (h1 : v < 2) : ∃ q, (q = r ∨ q = t) ∧ ∀ (M : Mem) (Q : QD), wIdx (.tup [prD r, prD t]) (.int v) M Q = Q (prD q) M := by
  rcases (by omega : v = 0 ∨ v = 1) with rfl | rfl
  · exact ⟨r, .inl rfl, fun _ _ => rfl⟩
  · exact ⟨t, .inr rfl, fun _ _ => rfl⟩
theorem idx_pr0 : wIdx (prD r) (.int 0) M Q = Q (.int r.1) M := rfl
theorem idx_pr1 : wIdx (prD r) (.int 1) M Q = Q (.int r.2) M := rfl
theorem idx_t0 : wIdx (.tup [prD r, prD t]) (.int 0) M Q = Q (prD r) M := rfl
theorem idx_t1 : wIdx (.tup [prD r, prD t]) (.int 1) M Q = Q (prD t) M := rfl
section
variable {a0 a2 a6 a7 a8 a9 a11 a12 a13 a14 a15 a17 a18 a19 a20 a21 a22 a23 a24 : Option D}
/-- the last test of a word -/
theorem word_5 (G1 : G68 Γ) (ok : F.ok) (io : i.ok F) (hp : 0 < r.2) (h1 : r.1.natAbs < 2 ^ 3000) (h2 : r.2.natAbs < 2 ^ 3000) (hh : F.hasB i (prR r) = true) {a4 a5 a16 : Option D}
    (rest : Dn.nx [a0, some (.ref p), a2, some (fmD F), a4, a5, a6, a7, a8, a9, some (ivD i), a11, a12, a13, a14, a15, a16, a17, a18, a19, a20, a21, some (prD r), a23, a24] M) :
    dSs Γ xm ir_law_k68_k5 W Dn [a0, some (.ref p), a2, some (fmD F), a4, a5, a6, a7, a8, a9, some (ivD i), a11, a12, a13, a14, a15, a16, a17, a18, a19, a20, a21, some (prD r), a23, a24] M := by
  unfold ir_law_k68_k5
  simp -implicitDefEqProofs [G1.g104, idx_pr0, idx_pr1]
  refine law_has_ok ok io hp h1 h2 ?_
  have : F.hasB i (Rat.divInt r.1 r.2) = true := hh
  simp [this]
  exact rest
theorem word_7 (G1 : G68 Γ) (ok : F.ok) (io : i.ok F) (jo : j.ok F) (h1 : F.rg i = some (x1, x2)) (h2 : F.rg j = some (y1, y2)) (hn : w = .div → nought y1 y2 = false) (hr : Pm r x1 x2) (ht : Pe t) (hq : prR t = y1 ∨ prR t = y2)
    (rest : ∀ a22, Dn.nx [a0, some (.ref p), a2, some (fmD F), some (ivD i), some (ivD j), a6, a7, a8, a9, some (ivD (F.made w i j)), a11, a12, a13, a14, a15, some (.str w.nm), a17, a18, some (prD r), some (prD t), a21, a22, a23, a24] M) :
    dSs Γ xm ir_law_k68_k7 W Dn [a0, some (.ref p), a2, some (fmD F), some (ivD i), some (ivD j), a6, a7, a8, a9, some (ivD (F.made w i j)), a11, a12, a13, a14, a15, some (.str w.nm), a17, a18, some (prD r), some (prD t), a21, a22, a23, a24] M := by
  have ly := rg_le ok jo h2
  have s1 := hr.n; have s2 := hr.d; have s3 := ht.n; have s4 := ht.d
  have pr := hr.pos; have pt := ht.pos
  have tz : w = .div → t.1 ≠ 0 := fun z z' => by
    obtain ⟨n1, n2⟩ := nought_ne ly (hn z)
    have : prR t = 0 := by unfold prR; rw [z']; simp
    rcases hq with e | e
    · exact n1 (by rw [← e]; exact this)
    · exact n2 (by rw [← e]; exact this)
  have hh : F.hasB (F.made w i j) (prR (w.pr r t)) = true := by
    rw [Wd.pr_val pr pt tz]
    exact made_has ok h1 h2 ly hn hr.lo hr.hi hq
  have mo := made_okI (o := w) ok io jo
  have f1 : (r.1 * t.2).natAbs < 2 ^ 460 := mul_abs s1 s4 (by decide)
  have f2 : (t.1 * r.2).natAbs < 2 ^ 460 := mul_abs s3 s2 (by decide)
  have f3 : (r.2 * t.2).natAbs < 2 ^ 3000 := mul_abs s2 s4 (by decide)
  have f4 : (2 : Nat) ^ 3000 = 2 ^ 2540 * 2 ^ 460 := by decide +kernel
  have f5 : 2 * 2 ^ 460 ≤ (2 : Nat) ^ 3000 := by rw [f4]; exact Nat.mul_le_mul_right _ (by decide +kernel)
  have p3 : 0 < r.2 * t.2 := Int.mul_pos pr pt
  have m1 : IntMulOk r.1 t.2 := mulOk s1 s4 (by decide)
  have m2 : IntMulOk t.1 r.2 := mulOk s3 s2 (by decide)
  have m3 : IntMulOk r.2 t.2 := mulOk s2 s4 (by decide)
  have m4 : IntMulOk r.1 t.1 := mulOk s1 s3 (by decide)
  unfold ir_law_k68_k7
  cases w with
  | add =>
    simp -implicitDefEqProofs [Wd.nm, idx_pr0, idx_pr1, m1, m2, m3]
    unfold ir_law_k68_k6
    simp -implicitDefEqProofs
    refine word_5 G1 ok mo (r := (r.1 * t.2 + t.1 * r.2, r.2 * t.2)) p3 ?_ f3 hh (rest _)
    show (r.1 * t.2 + t.1 * r.2).natAbs < 2 ^ 3000
    omega
  | sub =>
    simp -implicitDefEqProofs [Wd.nm, idx_pr0, idx_pr1, m1, m2, m3]
    unfold ir_law_k68_k6
    simp -implicitDefEqProofs
    refine word_5 G1 ok mo (r := (r.1 * t.2 - t.1 * r.2, r.2 * t.2)) p3 ?_ f3 ?_ (rest _)
    · show (r.1 * t.2 - t.1 * r.2).natAbs < 2 ^ 3000
      omega
    · have e : Wd.pr .sub r t = (r.1 * t.2 - t.1 * r.2, r.2 * t.2) := by
        show (r.1 * t.2 + (0 - t.1) * r.2, r.2 * t.2) = _
        rw [Int.zero_sub, Int.neg_mul, ← Int.sub_eq_add_neg]
      rw [← e]; exact hh
  | mul =>
    simp -implicitDefEqProofs [Wd.nm, idx_pr0, idx_pr1, m4, m3]
    unfold ir_law_k68_k6
    simp -implicitDefEqProofs
    exact word_5 G1 ok mo (r := (r.1 * t.1, r.2 * t.2)) p3 (mul_abs s1 s3 (by decide)) f3 hh (rest _)
  | div =>
    simp -implicitDefEqProofs [Wd.nm, idx_pr0, idx_pr1, m4, m3]
    unfold ir_law_k68_k6
    have ht0 := tz rfl
    have m8 : IntMulOk r.2 (if t.1 < 0 then -t.1 else t.1) := mulOk s2 (n := 190) (by rw [ite_abs]; exact s3) (by decide)
    have fin := word_5 (W := W) (xm := xm) (a0 := a0) (a2 := a2) (a6 := a6) (a7 := a7) (a8 := a8) (a9 := a9) (a11 := a11) (a12 := a12) (a13 := a13) (a14 := a14) (a15 := a15) (a17 := a17) (a18 := a18) (a21 := a21) (a23 := a23) (a24 := a24) (r := Wd.pr .div r t) G1 ok mo (Int.mul_pos pr (by show 0 < (if t.1 < 0 then -t.1 else t.1); split <;> omega)) (mul_abs (m := 460) (n := 2) f1 (by show (if 0 < t.1 then (1 : Int) else -1).natAbs < _; split <;> decide) (by decide)) (mul_abs (n := 190) s2 (by rw [ite_abs]; exact s3) (by decide)) hh (rest _)
    have m5 : IntMulOk (r.1 * t.2) 1 := mulOk f1 (n := 2) (by decide) (by decide)
    have m6 : IntMulOk (r.1 * t.2) (-1) := mulOk f1 (n := 2) (by decide) (by decide)
    have ep : Wd.pr .div r t = (r.1 * t.2 * (if 0 < t.1 then 1 else -1), r.2 * (if t.1 < 0 then -t.1 else t.1)) := rfl
    rw [ep] at fin
    by_cases z : 0 < t.1
    · rw [if_pos z] at fin
      simp -implicitDefEqProofs [idx_pr0, idx_pr1, m1, m5, m8, z]
      simpa [prD, Wd.nm] using fin
    · rw [if_neg z] at fin
      simp -implicitDefEqProofs [idx_pr0, idx_pr1, m1, m6, m8, z]
      simpa [prD, Wd.nm] using fin
theorem word_11 (G1 : G68 Γ) (wd : F.wd) (io : i.ok F) (jo : j.ok F) (ho : DrS o)
    (rest : ∀ (o : MO) (a17 a18 a19 a20 a21 a22 : Option D), DrS o → Dn.nx [a0, some (.ref p), a2, some (fmD F), some (ivD i), some (ivD j), a6, a7, a8, a9, some (ivD (F.made w i j)), a11, a12, a13, a14, a15, some (.str w.nm), a17, a18, a19, a20, a21, a22, a23, a24] (M.put p o)) :
    dSs Γ xm ir_law_k68_k11 W Dn [a0, some (.ref p), a2, some (fmD F), some (ivD i), some (ivD j), a6, a7, a8, a9, some (ivD (F.made w i j)), a11, a12, a13, a14, a15, some (.str w.nm), a17, a18, a19, a20, a21, a22, a23, a24] (M.put p o) := by
  have ok := wd.ok
  unfold ir_law_k68_k11
  simp -implicitDefEqProofs [G1.g101]
  refine law_ends_ok ok io ?_
  rcases en_all io with ⟨n1, n2⟩ | ⟨a, b, rfl, io', f1, f2, n1, n2⟩
  · rw [n1]
    simp -implicitDefEqProofs
    exact rest _ _ _ _ _ _ _ ho
  rw [n1]
  simp -implicitDefEqProofs
  refine law_ends_ok ok jo ?_
  rcases en_all jo with ⟨n3, n4⟩ | ⟨c, d, rfl, jo', f3, f4, n3, n4⟩
  · rw [n3]
    simp -implicitDefEqProofs
    exact rest _ _ _ _ _ _ _ ho
  rw [n3]
  simp -implicitDefEqProofs
  have pa := ex_pe wd io'.lo
  have pb := ex_pe wd io'.ho
  have pc := ex_pe wd jo'.lo
  have pd := ex_pe wd jo'.ho
  have lx := iv_val ok io' f1 f2
  have ly := iv_val ok jo' f3 f4
  have tail : (w = .div → nought (c.val F) (d.val F) = false) → dSs Γ xm ir_law_k68_k10 W Dn [a0, some (.ref p), a2, some (fmD F), some (ivD (some (a, b))), some (ivD (some (c, d))), a6, a7, a8, a9, some (ivD (F.made w (some (a, b)) (some (c, d)))), a11, a12, a13, a14, a15, some (.str w.nm), some (.tup [prD (exR F a), prD (exR F b)]), some (.tup [prD (exR F c), prD (exR F d)]), a19, a20, a21, a22, a23, a24] (M.put p o) := fun hn => by
    unfold ir_law_k68_k10
    simp -implicitDefEqProofs [G1.g23]
    refine draw_m (by omega) (by omega) ho fun v1 o1 h10 h11 ho1 => ?_
    obtain ⟨r, hr, er⟩ := idx_two (exR F a) (exR F b) h10 h11
    simp -implicitDefEqProofs [er, G1.g23]
    refine draw_m (by omega) (by omega) ho1 fun v2 o2 h20 h21 ho2 => ?_
    obtain ⟨t, ht, et⟩ := idx_two (exR F c) (exR F d) h20 h21
    simp -implicitDefEqProofs [et]
    have hrm : Pm r (a.val F) (b.val F) := by
      rcases hr with rfl | rfl
      · exact pa.pm (by rw [ex_pr ok]; exact Rat.le_refl) (by rw [ex_pr ok]; exact lx)
      · exact pb.pm (by rw [ex_pr ok]; exact lx) (by rw [ex_pr ok]; exact Rat.le_refl)
    have htp : Pe t := by rcases ht with rfl | rfl <;> assumption
    have htq : prR t = c.val F ∨ prR t = d.val F := by
      rcases ht with rfl | rfl
      · exact .inl (ex_pr ok)
      · exact .inr (ex_pr ok)
    have hm := mid_ok pa pb (by rw [ex_pr ok, ex_pr ok]; exact lx)
    rw [ex_pr ok, ex_pr ok] at hm
    unfold ir_law_k68_k9
    have s1 := pa.n; have s2 := pa.d; have s3 := pb.n; have s4 := pb.d
    have m1 : IntMulOk (exR F a).1 (exR F b).2 := mulOk s1 s4 (by decide)
    have m2 : IntMulOk (exR F b).1 (exR F a).2 := mulOk s3 s2 (by decide)
    have m3 : ∀ i : Int, IntMulOk 2 i := fun i => small_mul (by decide)
    have t2 : (2 * (exR F a).2).natAbs < 2 ^ 132 := mul_abs (m := 2) (n := 130) (by decide) s2 (by decide)
    have m4 : IntMulOk (2 * (exR F a).2) (exR F b).2 := mulOk t2 s4 (by decide)
    simp -implicitDefEqProofs [idx_t0, idx_t1, idx_pr0, idx_pr1, m1, m2, m3, m4]
    unfold ir_law_k68_k8
    simp -implicitDefEqProofs [G1.g75]
    refine pick_m ho2 (by simp) (by simp) fun q hq o3 ho3 => ?_
    obtain ⟨q', rfl, hq'⟩ : ∃ q' : Int × Int, q = prD q' ∧ Pm q' (a.val F) (b.val F) := by
      simp at hq
      rcases hq with rfl | rfl
      · exact ⟨_, rfl, hrm⟩
      · exact ⟨midP (exR F a) (exR F b), rfl, hm⟩
    exact word_7 G1 ok io jo n2 n4 hn hq' htp htq fun a22 => rest _ _ _ _ _ _ _ ho3
  by_cases cd : w = .div
  · have cd' : w.nm = "div" := by rw [cd]; rfl
    have e0 : F.hasB (some (c, d)) (Rat.divInt 0 1) = nought (c.val F) (d.val F) := by
      have e1 : Rat.divInt 0 1 = 0 := by decide +kernel
      have e2 : F.hasB (some (c, d)) (Rat.divInt 0 1) = ((!c.fin || decide (c.val F ≤ Rat.divInt 0 1)) && (!d.fin || decide (Rat.divInt 0 1 ≤ d.val F))) := rfl
      rw [e2, e1, f3, f4]; simp [nought]
    simp -implicitDefEqProofs [cd', G1.g104]
    refine law_has_ok ok jo (by decide) (by decide) (by decide) ?_
    rw [e0]
    cases hn : nought (c.val F) (d.val F) with
    | true =>
      simp -implicitDefEqProofs
      have := rest o a17 a18 a19 a20 a21 a22 ho
      rw [cd'] at this
      exact this
    | false =>
      have tail := tail fun _ => hn
      rw [cd'] at tail
      simp -implicitDefEqProofs [G1.g101]
      refine law_ends_ok ok io ?_
      rw [n1]
      refine law_ends_ok ok jo ?_
      rw [n3]
      exact tail
  · have cd' : ¬ w.nm = "div" := by cases w <;> simp_all [Wd.nm]
    simp -implicitDefEqProofs [cd', G1.g101]
    refine law_ends_ok ok io ?_
    rw [n1]
    refine law_ends_ok ok jo ?_
    rw [n3]
    exact tail fun z => absurd z cd
theorem word_13 (G1 : G68 Γ) (wd : F.wd) (io : i.ok F) (jo : j.ok F) (ho : DrS o) {a10 : Option D}
    (rest : ∀ (o : MO) (a10 a16 a17 a18 a19 a20 a21 a22 : Option D), DrS o → Dn.nx [a0, some (.ref p), a2, some (fmD F), some (ivD i), some (ivD j), a6, a7, a8, a9, a10, a11, a12, a13, a14, a15, a16, a17, a18, a19, a20, a21, a22, a23, a24] (M.put p o)) :
    dSs Γ xm ir_law_k68_b13 W Dn [a0, some (.ref p), a2, some (fmD F), some (ivD i), some (ivD j), a6, a7, a8, a9, a10, a11, a12, a13, a14, a15, some (.str w.nm), a17, a18, a19, a20, a21, a22, a23, a24] (M.put p o) := by
  have ok := wd.ok
  have mo := made_okI (o := w) ok io jo
  unfold ir_law_k68_b13
  simp -implicitDefEqProofs [G1.g97]
  refine made_ok wd io jo ?_
  unfold ir_law_k68_k12
  simp -implicitDefEqProofs [G1.g105, G1.g103]
  refine law_made_ok wd io jo ?_
  refine alike_ok ok mo mo ?_
  rw [alike_self]
  simp -implicitDefEqProofs [G1.g87]
  refine interval_ok ok mo ?_
  simp -implicitDefEqProofs
  exact word_11 G1 wd io jo ho fun o a17 a18 a19 a20 a21 a22 ho => rest o _ _ a17 a18 a19 a20 a21 a22 ho
/-- the nine that are no intervals -/
theorem bads_15 (G1 : G68 Γ) (ok : F.ok) (vo : v.ok F) (vn : v.isNum = true) {a4 a5 a10 a16 : Option D}
    (rest : ∀ a23, Dn.nx [a0, some (.ref p), a2, some (fmD F), a4, a5, a6, a7, a8, a9, a10, a11, a12, a13, some (vaD v), a15, a16, a17, a18, a19, a20, a21, a22, a23, a24] M) :
    dSs Γ xm ir_law_k68_k15 W Dn [a0, some (.ref p), a2, some (fmD F), a4, a5, a6, a7, a8, a9, a10, a11, a12, a13, some (vaD v), a15, a16, a17, a18, a19, a20, a21, a22, a23, a24] M := by
  obtain ⟨n1, n2, n3⟩ := num_nn vn
  have e1 : D.tup [.str "nan"] = vaD .nan := rfl
  have e2 : D.tup [.str "inf", .int 1] = vaD (.inf 1) := rfl
  have e3 : D.tup [.str "inf", .int (-1)] = vaD (.inf (-1)) := rfl
  have e4 : D.tup [.str "num", .int 1, .int 0, .int 0] = vaD (.num 1 0 0) := rfl
  unfold ir_law_k68_k15
  simp -implicitDefEqProofs [e1, e2, e3, e4]
  intro _
  refine for_inv (fun ds δ M' => (∀ d ∈ ds, BadIv F d) ∧ M' = M ∧ ∃ a23, δ = [a0, some (.ref p), a2, some (fmD F), a4, a5, a6, a7, a8, a9, a10, a11, a12, a13, some (vaD v), a15, a16, a17, a18, a19, a20, a21, a22, a23, a24]) ?_ ?_ _ _ _ ⟨?_, rfl, a23, rfl⟩
  · rintro d ds δ M' ⟨hd, rfl, a23, rfl⟩
    refine ⟨trivial, fun nx hn => ?_⟩
    unfold ir_law_k68_b14
    simp -implicitDefEqProofs [G1.g87]
    refine interval_bad ok (hd d (by simp)) ?_
    simp -implicitDefEqProofs
    exact hn _ _ ⟨fun x hx => hd x (by simp [hx]), rfl, _, rfl⟩
  · rintro δ M' ⟨hd, rfl, a23, rfl⟩
    exact ⟨trivial, rest _⟩
  · intro d hd
    simp at hd
    rcases hd with rfl | rfl | rfl | rfl | rfl | rfl | rfl | rfl | rfl
    · exact .non
    · exact .lst
    · exact .one
    · exact .nl vo
    · exact .nr vo
    · exact .up
    · exact .down
    · exact .three
    · exact .num vo n1 n2
end
end
end U
end
section
set_option maxHeartbeats 400000
namespace U
open PySem PySem.Spec PyProof.Rows L2 DL
section
variable {Γ : List DSp} {xm : Nat → Nat → Option Bool} {ds : List D} {M : Mem} {Q : QD} {E : XD} {F G : Fm} {v u : Va} {md : Md} {x y x1 x2 y1 y2 : Rat} {W : WD} {s : Int} {k : Bool → Prop} {i j i3 j3 : Iv} {a b c d : Va} {w : Wd} {p : Addr} {r t : Int × Int} {Dn : En} {o : MO}
theorem format_put (ho : DrS o) (h : ∀ F o, Fm.dr F → DrS o → Q (fmD F) (M.put p o)) : φ_law_format [.ref p] (M.put p o) Q E := ⟨.put ho, fun F o' hF ho' => by rw [Mem.put_put]; exact h F o' hF ho'⟩
/-- what stays of a turn -/
def End68 (Dn : En) (a0 : Option D) (p : Addr) (M : Mem) : Prop := ∀ (F : Fm) (v : Va) (o : MO) (a2 a4 a5 a6 a7 a8 a9 a10 a11 a12 a13 a15 a16 a17 a18 a19 a20 a21 a22 a23 a24 : Option D), F.wd → v.ok F → v.isNum = true → DrS o → Dn.nx [a0, some (.ref p), a2, some (fmD F), a4, a5, a6, a7, a8, a9, a10, a11, a12, a13, some (vaD v), a15, a16, a17, a18, a19, a20, a21, a22, a23, a24] (M.put p o)
section
variable {a0 a2 a3 a4 a5 a6 a7 a8 a9 a10 a11 a12 a13 a14 a15 a16 a17 a18 a19 a20 a21 a22 a23 a24 : Option D}
theorem q68_16 (G1 : G68 Γ) (wd : F.wd) (ho : DrS o) (rest : End68 Dn a0 p M) :
    dSs Γ xm ir_law_k68_k16 W Dn [a0, some (.ref p), a2, some (fmD F), a4, a5, a6, a7, a8, a9, a10, a11, a12, a13, a14, a15, a16, a17, a18, a19, a20, a21, a22, a23, a24] (M.put p o) := by
  unfold ir_law_k68_k16
  simp -implicitDefEqProofs [G1.g68]
  refine number_put wd.ok wd ho fun v o1 hv vo ho1 => ?_
  exact bads_15 G1 wd.ok vo hv fun a23 => rest _ _ _ _ _ _ _ _ _ _ _ _ _ _ _ _ _ _ _ _ _ _ _ _ wd vo hv ho1
theorem q68_17 (G1 : G68 Γ) (wd : F.wd) (io : i.ok F) (jo : j.ok F) (ho : DrS o) (rest : End68 Dn a0 p M) :
    dSs Γ xm ir_law_k68_k17 W Dn [a0, some (.ref p), a2, some (fmD F), some (ivD i), some (ivD j), a6, a7, a8, a9, a10, a11, a12, a13, a14, a15, a16, a17, a18, a19, a20, a21, a22, a23, a24] (M.put p o) := by
  unfold ir_law_k68_k17
  simp -implicitDefEqProofs
  intro _
  refine for_inv (fun ds δ M' => (∃ ws : List Wd, ds = ws.map fun w => .str w.nm) ∧ ∃ (o : MO) (a10 a16 a17 a18 a19 a20 a21 a22 : Option D), DrS o ∧ M' = M.put p o ∧ δ = [a0, some (.ref p), a2, some (fmD F), some (ivD i), some (ivD j), a6, a7, a8, a9, a10, a11, a12, a13, a14, a15, a16, a17, a18, a19, a20, a21, a22, a23, a24]) ?_ ?_ _ _ _ ⟨⟨[.add, .sub, .mul, .div], rfl⟩, o, a10, a16, a17, a18, a19, a20, a21, a22, ho, rfl, rfl⟩
  · rintro d ds δ M' ⟨⟨ws, e⟩, o, a10, a16, a17, a18, a19, a20, a21, a22, ho, rfl, rfl⟩
    rcases ws with _ | ⟨w, ws⟩
    · simp at e
    simp at e
    obtain ⟨rfl, rfl⟩ := e
    refine ⟨trivial, fun nx hn => ?_⟩
    simp -implicitDefEqProofs
    exact word_13 G1 wd io jo ho fun o a10 a16 a17 a18 a19 a20 a21 a22 ho => hn _ _ ⟨⟨ws, rfl⟩, o, a10, a16, a17, a18, a19, a20, a21, a22, ho, rfl, rfl⟩
  · rintro δ M' ⟨_, o, a10, a16, a17, a18, a19, a20, a21, a22, ho, rfl, rfl⟩
    exact ⟨trivial, q68_16 G1 wd ho rest⟩
theorem q68_18 (G1 : G68 Γ) (wd : F.wd) (io : i.ok F) (jo : j.ok F) (ho : DrS o) (h1 : i3.ok F) (h2 : j3.ok F) (e1 : F.alike (F.met i j) i3 = true) (e2 : F.alike (F.hull i j) j3 = true) (rest : End68 Dn a0 p M) :
    dSs Γ xm ir_law_k68_k18 W Dn [a0, some (.ref p), a2, some (fmD F), some (ivD i), some (ivD j), a6, a7, a8, a9, a10, some (ivD i3), some (ivD j3), some (.bl (F.inside i j)), a14, a15, a16, a17, a18, a19, a20, a21, a22, a23, a24] (M.put p o) := by
  have ok := wd.ok
  unfold ir_law_k68_k18
  simp -implicitDefEqProofs [G1.g93, G1.g94, G1.g95, G1.g105]
  refine met_ok ok io jo ?_
  refine alike_ok ok (met_okI io jo) h1 ?_
  rw [e1]
  simp -implicitDefEqProofs [G1.g94, G1.g95, G1.g105]
  refine hull_ok ok io jo ?_
  refine alike_ok ok (hull_okI io jo) h2 ?_
  rw [e2]
  simp -implicitDefEqProofs [G1.g95, G1.g24]
  refine inside_ok ok io jo ?_
  refine ⟨rfl, rfl, ?_⟩
  exact q68_17 G1 wd io jo ho rest
theorem q68_19 (G1 : G68 Γ) (wd : F.wd) (io : i.ok F) (jo : j.ok F) (ho : DrS o) (rest : End68 Dn a0 p M) :
    dSs Γ xm ir_law_k68_k19 W Dn [a0, some (.ref p), a2, some (fmD F), some (ivD i), some (ivD j), a6, a7, a8, a9, a10, a11, a12, a13, a14, a15, a16, a17, a18, a19, a20, a21, a22, a23, a24] (M.put p o) := by
  have ok := wd.ok
  have e0 : D.tup [] = ivD none := rfl
  unfold ir_law_k68_k19
  rcases i with _ | ⟨a, b⟩
  · simp -implicitDefEqProofs
    exact q68_18 (i3 := none) (j3 := j) G1 wd trivial jo ho trivial jo (by rcases j with _ | ⟨c, d⟩ <;> rfl) (by rcases j with _ | ⟨c, d⟩ <;> exact alike_self) rest
  · have io' : IvOk F a b := io
    rcases j with _ | ⟨c, d⟩
    · simp -implicitDefEqProofs
      exact q68_18 (i3 := none) (j3 := some (a, b)) G1 wd io trivial ho trivial io rfl alike_self rest
    · have jo' : IvOk F c d := jo
      have i0 : ∀ (M : Mem) (Q : QD) (a b : Va), wIdx (ivD (some (a, b))) (.int 0) M Q = Q (vaD a) M := fun _ _ _ _ => rfl
      have i1 : ∀ (M : Mem) (Q : QD) (a b : Va), wIdx (ivD (some (a, b))) (.int 1) M Q = Q (vaD b) M := fun _ _ _ _ => rfl
      have k1 : ∀ (i3 j3 : Iv), i3.ok F → j3.ok F → F.alike (F.met (some (a, b)) (some (c, d))) i3 = true → F.alike (F.hull (some (a, b)) (some (c, d))) j3 = true → ∀ (a13 a14 a15 : Option D), dSs Γ xm ir_law_k68_k1 W { nx := fun δ' M' => dSs Γ xm ir_law_k68_k18 W Dn δ' M', rt := Dn.rt, bk := Dn.bk, ct := Dn.ct } [a0, some (.ref p), a2, some (fmD F), some (ivD (some (a, b))), some (ivD (some (c, d))), a6, a7, a8, a9, a10, some (ivD i3), some (ivD j3), a13, a14, a15, a16, a17, a18, a19, a20, a21, a22, a23, a24] (M.put p o) := by
        intro i3 j3 h1 h2 e1 e2 a13 a14 a15
        have fin := fun a14 a15 => q68_18 (W := W) (xm := xm) (a2 := a2) (a6 := a6) (a7 := a7) (a8 := a8) (a9 := a9) (a10 := a10) (a14 := a14) (a15 := a15) (a16 := a16) (a17 := a17) (a18 := a18) (a19 := a19) (a20 := a20) (a21 := a21) (a22 := a22) (a23 := a23) (a24 := a24) G1 wd io jo ho h1 h2 e1 e2 rest
        have ei : F.inside (some (a, b)) (some (c, d)) = (decide (F.rk c ≤ F.rk a) && decide (F.rk b ≤ F.rk d)) := rfl
        rw [ei] at fin
        unfold ir_law_k68_k1
        simp -implicitDefEqProofs [G1.g99, i0, i1, ok, io'.lo, io'.ho, io'.ln, io'.hn, jo'.lo, jo'.ho, jo'.ln, jo'.hn]
        by_cases q1 : F.rk c ≤ F.rk a
        · simp -implicitDefEqProofs [q1] at fin ⊢
          exact fin _ _
        · simp -implicitDefEqProofs [q1] at fin ⊢
          exact fin _ _
      have k2 : ∀ (i3 : Iv), i3.ok F → F.alike (F.met (some (a, b)) (some (c, d))) i3 = true → ∀ (a12 a13 a14 a15 : Option D), dSs Γ xm ir_law_k68_k2 W { nx := fun δ' M' => dSs Γ xm ir_law_k68_k18 W Dn δ' M', rt := Dn.rt, bk := Dn.bk, ct := Dn.ct } [a0, some (.ref p), a2, some (fmD F), some (ivD (some (a, b))), some (ivD (some (c, d))), a6, a7, a8, a9, a10, some (ivD i3), a12, a13, a14, a15, a16, a17, a18, a19, a20, a21, a22, a23, a24] (M.put p o) := by
        intro i3 h1 e1 a12 a13 a14 a15
        have fin := k1 i3 (F.wholeL a b c d) h1 (wholeL_ok io' jo') e1 wholeL_alike
        unfold Fm.wholeL at fin
        unfold ir_law_k68_k2
        simp -implicitDefEqProofs [G1.g99, i0, i1, ok, io'.lo, io'.ho, io'.ln, io'.hn, jo'.lo, jo'.ho, jo'.ln, jo'.hn]
        by_cases q1 : F.rk a ≤ F.rk c <;> by_cases q2 : F.rk b ≤ F.rk d <;> simp -implicitDefEqProofs [q1, q2, G1.g99, i0, i1, ok, io'.lo, io'.ho, io'.ln, io'.hn, jo'.lo, jo'.ho, jo'.ln, jo'.hn] at fin ⊢ <;> exact fin _ _ _
      have k3 : ∀ {a11 a12 a13 : Option D}, dSs Γ xm ir_law_k68_k3 W { nx := fun δ' M' => dSs Γ xm ir_law_k68_k18 W Dn δ' M', rt := Dn.rt, bk := Dn.bk, ct := Dn.ct } [a0, some (.ref p), a2, some (fmD F), some (ivD (some (a, b))), some (ivD (some (c, d))), a6, a7, a8, a9, a10, a11, a12, a13, some (vaD (F.lowL a c)), some (vaD (F.highL b d)), a16, a17, a18, a19, a20, a21, a22, a23, a24] (M.put p o) := by
        intro a11 a12 a13
        have o1 := lowL_ok (F := F) io'.lo jo'.lo
        have o2 := highL_ok (F := F) io'.ho jo'.ho
        have n1 : F.lowL a c ≠ .nan := lowL_ne io'.ln jo'.ln
        have n2 : F.highL b d ≠ .nan := highL_ne io'.hn jo'.hn
        have fin := k2 (F.bothL a b c d) (bothL_ok io' jo') bothL_alike
        unfold Fm.bothL at fin
        unfold ir_law_k68_k3
        simp -implicitDefEqProofs [G1.g99, ok, o1, o2, n1, n2]
        by_cases q1 : F.rk (F.lowL a c) ≤ F.rk (F.highL b d)
        · rw [if_pos q1] at fin
          simp -implicitDefEqProofs [q1]
          exact fin _ _ _ _
        · rw [if_neg q1] at fin
          simp -implicitDefEqProofs [q1]
          exact fin _ _ _ _
      have k4 : ∀ {a11 a12 a13 a15 : Option D}, dSs Γ xm ir_law_k68_k4 W { nx := fun δ' M' => dSs Γ xm ir_law_k68_k18 W Dn δ' M', rt := Dn.rt, bk := Dn.bk, ct := Dn.ct } [a0, some (.ref p), a2, some (fmD F), some (ivD (some (a, b))), some (ivD (some (c, d))), a6, a7, a8, a9, a10, a11, a12, a13, some (vaD (F.lowL a c)), a15, a16, a17, a18, a19, a20, a21, a22, a23, a24] (M.put p o) := by
        intro a11 a12 a13 a15
        have fin := k3 (a11 := a11) (a12 := a12) (a13 := a13)
        unfold ir_law_k68_k4
        simp -implicitDefEqProofs [G1.g99, i0, i1, ok, io'.lo, io'.ho, io'.ln, io'.hn, jo'.lo, jo'.ho, jo'.ln, jo'.hn]
        unfold Fm.highL at fin
        by_cases q1 : F.rk b ≤ F.rk d
        · rw [if_pos q1] at fin
          simp -implicitDefEqProofs [q1]
          exact fin
        · rw [if_neg q1] at fin
          simp -implicitDefEqProofs [q1]
          exact fin
      have fin := k4 (a11 := a11) (a12 := a12) (a13 := a13) (a15 := a15)
      unfold Fm.lowL at fin
      simp -implicitDefEqProofs [G1.g99, i0, i1, ok, io'.lo, io'.ho, io'.ln, io'.hn, jo'.lo, jo'.ho, jo'.ln, jo'.hn]
      by_cases q1 : F.rk a ≤ F.rk c
      · rw [if_pos q1] at fin
        simp -implicitDefEqProofs [q1]
        exact fin
      · rw [if_neg q1] at fin
        simp -implicitDefEqProofs [q1]
        exact fin
theorem xs_sz {n : Nat} (h : Xs x) (hn : 200 ≤ n) : Sz n x := ⟨pow_mono h.n hn, pow_mono h.d hn⟩
theorem q68_20 (G1 : G68 Γ) (wd : F.wd) (io : i.ok F) (jo : j.ok F) (hx : Xs x) (hy : Xs y) (ho : DrS o) (rest : End68 Dn a0 p M) :
    dSs Γ xm ir_law_k68_k20 W Dn [a0, some (.ref p), a2, some (fmD F), some (ivD i), some (ivD j), some (.int x.num), some (.int x.den), some (.int y.num), some (.int y.den), a10, a11, a12, a13, a14, a15, a16, a17, a18, a19, a20, a21, a22, a23, a24] (M.put p o) := by
  have ok := wd.ok
  have m1 : IntMulOk x.num y.den := mulOk (n := 200) hx.n (by rw [Int.natAbs_natCast]; exact hy.d) (by decide)
  have m2 : IntMulOk y.num x.den := mulOk (n := 200) hy.n (by rw [Int.natAbs_natCast]; exact hx.d) (by decide)
  have er : ∀ x : Rat, D.tup [.int x.num, .int x.den] = rt x := fun _ => rfl
  unfold ir_law_k68_k20
  by_cases c : x ≤ y
  · have c' : x.num * y.den ≤ y.num * x.den := Rat.le_iff _ _ |>.mp c
    simp -implicitDefEqProofs [m1, m2, c', er, G1.g90]
    refine around_ok ok (xs_sz hx (by decide)) (xs_sz hy (by decide)) c hx.nm hy.nm ?_
    have ao := ard_ok ok c
    have pw : ∀ x : Rat, Xs x → Pw (x.num, x.den) := fun x h => by
      have := x.den_pos
      exact ⟨by show (0 : Int) < x.den; omega, pow_mono h.n (by decide), by simpa using pow_mono h.d (show 200 ≤ 900 by decide)⟩
    have pr : ∀ x : Rat, prR (x.num, (x.den : Int)) = x := fun x => Rat.num_divInt_den x
    simp -implicitDefEqProofs [er, G1.g105, G1.g102]
    refine ⟨F, rfl, ok, (x.num, x.den), [(y.num, y.den)], .inl rfl, by simp [pw x hx, pw y hy], ?_⟩
    have e1 : F.ard (([(y.num, (y.den : Int))].map prR).foldl least (prR (x.num, x.den))) (([(y.num, (y.den : Int))].map prR).foldl most (prR (x.num, x.den))) = F.ard x y := by
      simp [pr, least, most]
      have : ¬ y < x := Rat.not_lt.mpr c
      rw [if_neg this]
      by_cases l : x < y
      · rw [if_pos l]
      · rw [if_neg l]
        have : x = y := Rat.le_antisymm c (Rat.not_lt.mp l)
        rw [this]
    rw [e1]
    refine alike_ok ok ao ao ?_
    rw [alike_self]
    simp -implicitDefEqProofs [G1.g87]
    refine interval_ok ok ao ?_
    simp -implicitDefEqProofs [er, G1.g91]
    refine has_ok ok (xs_sz hx (by decide)) ao ?_
    rw [ard_has ok Rat.le_refl c]
    simp -implicitDefEqProofs
    exact q68_19 G1 wd io jo ho rest
  · have c' : ¬ x.num * y.den ≤ y.num * x.den := fun z => c ((Rat.le_iff _ _).mpr z)
    simp -implicitDefEqProofs [m1, m2, c']
    exact q68_19 G1 wd io jo ho rest
theorem turn_68 (G1 : G68 Γ) (ho : DrS o) (rest : End68 Dn a0 p M) :
    dSs Γ xm ir_law_k68_b26 W Dn [a0, some (.ref p), a2, a3, a4, a5, a6, a7, a8, a9, a10, a11, a12, a13, a14, a15, a16, a17, a18, a19, a20, a21, a22, a23, a24] (M.put p o) := by
  have er : ∀ x : Rat, D.tup [.int x.num, .int x.den] = rt x := fun _ => rfl
  unfold ir_law_k68_b26
  simp -implicitDefEqProofs [G1.g62]
  refine format_put ho fun F o1 hF ho1 => ?_
  have wd := hF.wd
  have ok := wd.ok
  unfold ir_law_k68_k25
  simp -implicitDefEqProofs [G1.g100]
  refine interval_put wd ho1 fun i o2 io ho2 => ?_
  refine interval_put wd ho2 fun j o3 jo ho3 => ?_
  unfold ir_law_k68_k24
  simp -implicitDefEqProofs [G1.g87]
  refine interval_ok ok io ?_
  simp -implicitDefEqProofs [G1.g87]
  refine interval_ok ok jo ?_
  simp -implicitDefEqProofs
  unfold ir_law_k68_k23
  simp -implicitDefEqProofs [G1.g74]
  refine frac_put ho3 fun x o4 x1 x2 ho4 => ?_
  simp -implicitDefEqProofs
  unfold ir_law_k68_k22
  simp -implicitDefEqProofs [G1.g74]
  refine frac_put ho4 fun y o5 y1 y2 ho5 => ?_
  simp -implicitDefEqProofs
  have hx := xs_small x1 x2
  have hy := xs_small y1 y2
  unfold ir_law_k68_k21
  simp -implicitDefEqProofs [er, G1.g91, G1.g104, G1.g24]
  refine has_ok ok (xs_sz hx (by decide)) io ?_
  have := x.den_pos
  refine law_has_ok ok io (by omega) (pow_mono hx.n (by decide)) (by simpa using pow_mono hx.d (show 200 ≤ 3000 by decide)) ?_
  refine ⟨?_, rfl, ?_⟩
  · rw [Rat.num_divInt_den]
  exact q68_20 G1 wd io jo hx hy ho5 rest
end
end
end U
end
section
set_option maxHeartbeats 400000
namespace U
open PySem PySem.Spec PyProof.Rows L2 DL
section
variable {Γ : List DSp} {xm : Nat → Nat → Option Bool} {ds : List D} {M : Mem} {Q : QD} {E : XD} {F G : Fm} {v u : Va} {md : Md} {x y x1 x2 y1 y2 : Rat} {W : WD} {s : Int} {k : Bool → Prop} {i j i3 j3 : Iv} {a b c d : Va} {w : Wd} {p l : Addr} {r t : Int × Int} {Dn : En} {o : MO}
theorem put_swap {o o' l' : MO} (h : p ≠ l) : ((M.put p o).put l l').put p o' = (M.put p o').put l l' := by
  funext b
  simp only [Mem.put]
  by_cases h1 : b = p
  · subst h1
    rw [if_pos rfl, if_neg h, if_pos rfl]
  · rw [if_neg h1, if_neg h1, if_neg h1]
def plans (n : Nat) : List D := List.replicate n (.str "plan")
theorem eq_plans {l l' : Addr} (h1 : M l = some (.lst (plans 4))) (h2 : M l' = some (.lst (plans 4))) (h : k true) : wEq (.ref l) (.ref l') M k := by
  have e1 : rdM M (.ref l) = .lst (plans 4) := by simp only [rdM, h1]
  have e2 : rdM M (.ref l') = .lst (plans 4) := by simp only [rdM, h2]
  refine ⟨.list [.str "plan", .str "plan", .str "plan", .str "plan"], .list [.str "plan", .str "plan", .str "plan", .str "plan"], by rw [e1]; rfl, by rw [e2]; rfl, by decide +kernel, by decide +kernel, ?_⟩
  have e : PyData.eqv (.list [.str "plan", .str "plan", .str "plan", .str "plan"]) (.list [.str "plan", .str "plan", .str "plan", .str "plan"]) = true := by decide +kernel
  rw [e]
  exact h
section
variable {a0 a2 a3 a4 a5 a6 a7 a8 a9 a10 a11 a12 a13 a14 a15 a16 a17 a18 a19 a20 a21 a22 a23 a24 : Option D}
theorem one_sz {n : Nat} (h : 1 ≤ n) : Sz n 1 ∧ Sz n 0 := by
  have : 1 < 2 ^ n := Nat.one_lt_two_pow (by omega)
  exact ⟨⟨this, this⟩, ⟨Nat.lt_trans (by decide) this, this⟩⟩
theorem try_27 (G1 : G68 Γ) (hx : xm 0 0 = some true) (wd : F.wd) (vo : v.ok F) (ho : DrS o) (hp : p ≠ l) {n : Nat} {t : Int} (hn : n < 100) (ht : t = 0 ∨ t = 1 ∨ t = 2 ∨ t = 3)
    (rest : ∀ o, DrS o → Dn.nx [a0, some (.ref p), some (.int t), some (fmD F), a4, a5, a6, a7, a8, a9, a10, a11, a12, a13, some (vaD v), a15, a16, a17, a18, a19, a20, a21, a22, a23, some (.ref l)] ((M.put p o).put l (.lst (plans (n + 1))))) :
    dSs Γ xm ir_law_k68_b27 W Dn [a0, some (.ref p), some (.int t), some (fmD F), a4, a5, a6, a7, a8, a9, a10, a11, a12, a13, some (vaD v), a15, a16, a17, a18, a19, a20, a21, a22, a23, some (.ref l)] ((M.put p o).put l (.lst (plans n))) := by
  have ok := wd.ok
  have e1 : D.tup [.int 1, .int 1] = rt 1 := rfl
  have e0 : D.tup [.int 0, .int 1] = rt 0 := rfl
  have en : D.tup [] = ivD none := rfl
  have pl : plans n ++ [.str "plan"] = plans (n + 1) := by unfold plans; rw [← List.replicate_succ']
  have ll : (plans n).length < sizeLine := by unfold plans; rw [List.length_replicate, sizeLine_eq]; omega
  unfold ir_law_k68_b27
  rcases ht with rfl | rfl | rfl | rfl
  · simp -implicitDefEqProofs [e1, e0, G1.g90]
    refine around_bad ok (one_sz (by decide)).1 (one_sz (by decide)).2 (by decide) ?_
    simp -implicitDefEqProofs [hx, ll, pl]
    exact rest o ho
  · simp -implicitDefEqProofs [en, G1.g75, G1.g97]
    refine ⟨⟨o, by rw [Mem.put_ne (by exact hp), Mem.put_same], ho⟩, by simp, by simp, fun d hd o1 ho1 => ?_⟩
    have hd' : ∃ w : Str, d = .str w ∧ (w = "rem" ∨ w = "" ∨ w = "fma") := by
      simp at hd
      rcases hd with rfl | rfl | rfl
      · exact ⟨_, rfl, .inl rfl⟩
      · exact ⟨_, rfl, .inr (.inl rfl)⟩
      · exact ⟨_, rfl, .inr (.inr rfl)⟩
    obtain ⟨w, rfl, hw⟩ := hd'
    rw [put_swap hp]
    refine ⟨F, rfl, ok, wd, .inr ⟨hw, rfl, rfl, ?_⟩⟩
    simp -implicitDefEqProofs [hx, ll, pl]
    exact rest o1 ho1
  · simp -implicitDefEqProofs [en, G1.g93]
    refine met_bad ok trivial .one ?_
    simp -implicitDefEqProofs [hx, ll, pl]
    exact rest o ho
  · simp -implicitDefEqProofs [e0, G1.g91]
    refine has_bad ok (one_sz (by decide)).2 .non ?_
    simp -implicitDefEqProofs [hx, ll, pl]
    exact rest o ho
end
theorem len23 {r : List (Option D)} (h : r.length = 23) : ∃ a2 a3 a4 a5 a6 a7 a8 a9 a10 a11 a12 a13 a14 a15 a16 a17 a18 a19 a20 a21 a22 a23 a24, r = [a2, a3, a4, a5, a6, a7, a8, a9, a10, a11, a12, a13, a14, a15, a16, a17, a18, a19, a20, a21, a22, a23, a24] := by
  match r, h with
  | [a2, a3, a4, a5, a6, a7, a8, a9, a10, a11, a12, a13, a14, a15, a16, a17, a18, a19, a20, a21, a22, a23, a24], _ => exact ⟨a2, a3, a4, a5, a6, a7, a8, a9, a10, a11, a12, a13, a14, a15, a16, a17, a18, a19, a20, a21, a22, a23, a24, rfl⟩
theorem b_law_k68 (G1 : G68 Γ) (hx : xm 0 0 = some true) (h : DL.φ_law ds M Q E) : dSs Γ xm ir_law_k68 (endW E) (endS Q) (startD 25 ds) M := by
  obtain ⟨ns, d, hn, rfl, hs, h⟩ := h
  unfold ir_law_k68
  simp [G1.g22, startD, φ_law_draws, hs]
  intro p hp
  unfold ir_law_k68_k32
  simp
  refine ⟨⟨by decide, by decide⟩, ?_⟩
  refine for_inv (fun ds δ M' => ∃ (o : MO), DrS o ∧ M' = M.put p o ∧ ((ds ≠ [] ∧ ∃ r : List (Option D), δ = some d :: some (.ref p) :: r ∧ r.length = 23) ∨ ∃ (F : Fm) (v : Va) (a2 a4 a5 a6 a7 a8 a9 a10 a11 a12 a13 a15 a16 a17 a18 a19 a20 a21 a22 a23 a24 : Option D), F.wd ∧ v.ok F ∧ v.isNum = true ∧ δ = [some d, some (.ref p), a2, some (fmD F), a4, a5, a6, a7, a8, a9, a10, a11, a12, a13, some (vaD v), a15, a16, a17, a18, a19, a20, a21, a22, a23, a24])) ?_ ?_ _ _ _ ⟨_, DrS.new ns, rfl, .inl ⟨by decide, List.replicate 23 none, rfl, rfl⟩⟩
  · rintro e ds δ M' ⟨o, ho, rfl, hδ⟩
    refine ⟨trivial, fun nx hnx => ?_⟩
    have hr : ∃ r : List (Option D), δ = some d :: some (.ref p) :: r ∧ r.length = 23 := by
      rcases hδ with ⟨_, h⟩ | ⟨F, v, a2, a4, a5, a6, a7, a8, a9, a10, a11, a12, a13, a15, a16, a17, a18, a19, a20, a21, a22, a23, a24, _, _, _, rfl⟩
      · exact h
      · exact ⟨_, rfl, rfl⟩
    obtain ⟨r, rfl, hr⟩ := hr
    obtain ⟨a2, a3, a4, a5, a6, a7, a8, a9, a10, a11, a12, a13, a14, a15, a16, a17, a18, a19, a20, a21, a22, a23, a24, rfl⟩ := len23 hr
    simp -implicitDefEqProofs
    refine turn_68 G1 ho ?_
    intro F v o' a2 a4 a5 a6 a7 a8 a9 a10 a11 a12 a13 a15 a16 a17 a18 a19 a20 a21 a22 a23 a24 wd vo vn ho'
    exact hnx _ _ ⟨o', ho', rfl, .inr ⟨F, v, a2, a4, a5, a6, a7, a8, a9, a10, a11, a12, a13, a15, a16, a17, a18, a19, a20, a21, a22, a23, a24, wd, vo, vn, rfl⟩⟩
  · rintro δ M' ⟨o, ho, rfl, hδ⟩
    refine ⟨trivial, ?_⟩
    rcases hδ with ⟨z, _⟩ | ⟨F, v, a2, a4, a5, a6, a7, a8, a9, a10, a11, a12, a13, a15, a16, a17, a18, a19, a20, a21, a22, a23, a24, wd, vo, vn, rfl⟩
    · exact absurd rfl z
    have ew : D.tup [D.tup [.str "inf", .int (-1)], D.tup [.str "inf", .int 1]] = ivD wholeI := rfl
    unfold ir_law_k68_k31
    simp -implicitDefEqProofs [G1.g89, ew]
    have ew2 : wholeI = some (Va.inf (-1), Va.inf 1) := rfl
    simp -implicitDefEqProofs [ew2]
    unfold ir_law_k68_k30
    simp -implicitDefEqProofs
    intro l hl
    have hne : p ≠ l := fun z => by rw [← z, Mem.put_same] at hl; cases hl
    unfold ir_law_k68_k29
    simp -implicitDefEqProofs
    refine ⟨⟨by decide, by decide⟩, ?_⟩
    have e4 : rngD 0 1 4 = [.int 0, .int 1, .int 2, .int 3] := rfl
    rw [e4]
    simp -implicitDefEqProofs [for_cons]
    refine try_27 (n := 0) G1 hx wd vo ho hne (by decide) (.inl rfl) fun o1 ho1 => ?_
    simp -implicitDefEqProofs [for_cons]
    refine try_27 (n := 1) G1 hx wd vo ho1 hne (by decide) (.inr (.inl rfl)) fun o2 ho2 => ?_
    simp -implicitDefEqProofs [for_cons]
    refine try_27 (n := 2) G1 hx wd vo ho2 hne (by decide) (.inr (.inr (.inl rfl))) fun o3 ho3 => ?_
    simp -implicitDefEqProofs [for_cons]
    refine try_27 (n := 3) G1 hx wd vo ho3 hne (by decide) (.inr (.inr (.inr rfl))) fun o4 ho4 => ?_
    simp -implicitDefEqProofs [for_cons]
    unfold ir_law_k68_k28
    simp -implicitDefEqProofs
    intro r hr
    refine ⟨by rw [sizeLine_eq]; decide, fun q hq => ?_⟩
    have n1 : l ≠ r := fun z => by rw [← z, Mem.put_same] at hr; cases hr
    have n2 : l ≠ q := fun z => by rw [← z, Mem.put_ne n1, Mem.put_same] at hq; cases hq
    refine eq_plans ?_ ?_ ?_
    · rw [Mem.put_ne n2, Mem.put_ne n1, Mem.put_same]
    · rw [Mem.put_same]; rfl
    · have hl4 : (M.put p o4) l = none := by rw [Mem.put_ne hne.symm] at hl ⊢; exact hl
      exact ⟨M.put p o4, Mem.le_trans (Mem.le_put hl4) (Mem.le_trans (Mem.le_put hr) (Mem.le_put hq)), h _⟩
theorem b_law_k68x (H : xm 0 0 = some true ∧ G68 Γ) (h : DL.φ_law ds M Q E) : dSs Γ xm ir_law_k68 (endW E) (endS Q) (startD 25 ds) M := b_law_k68 H.2 H.1 h
end
end U
end
section
set_option maxHeartbeats 0
namespace U
open PySem PySem.Spec PyProof.Rows L2 DL
def Γ0 : List DSp := ([φ_is_whole, φ_shared, φ_fraction, φ_fraction1, φF, φ_plus, φF, φ_times, φ_over, φ_against, φF, φ_order, φ_below, φ_at_most, φ_least_of, φ_most_of, φ_floor, φF, φ_raised, φ_power] : List DSp) ++ ([φF, φ_digits_in, φ_law_draws, φ_law_draw, (φ_law_same 4), φF, φF, φ_is_format, φ_look_at_format, φ_is_mode, φ_look_at_mode, φ_full, φ_above, φ_how_many, φF, φF, φF, φ_is_value, φ_look_at_value, φ_exact] : List DSp) ++ ([φ_rank, φF, φF, φ_is_finite, φ_oracle_of, φ_told, φ_goes_up, φ_beyond, φ_put_low, φ_put, φ_rounded, φ_rounded3, φF, φF, φF, φF, φF, φF, φF, φF] : List DSp) ++ ([φF, φ_law_raise, φ_law_format, φF, φ_law_goes, φ_law_below, φ_law_round, φ_law_exact, φ_law_number, φF, φF, φF, φF, φF, φ_law_fraction, φ_law_pick, φF, φF, φF, φF] : List DSp) ++ ([φ_compared, φ_ends, φ_sum_range, φ_turned_range, φ_product_range, φ_has_nought, φ_quotient_range, φ_is_interval, φ_look_at_interval, φ_whole_line, φ_around, φ_has, φ_range_in, φ_met, φ_hull, φ_is_inside, φ_ranged, φ_made, φ_law_key, φ_law_le] : List DSp) ++ ([φ_law_interval, φ_law_ends, φ_law_around, φ_law_made, φ_law_has, φ_law_alike] : List DSp)
theorem cal_same {P : Program} {w : World} {mg : Str → Option Value} {base : Heap} {T : Tx} {xm : Nat → Nat → Option Bool} {Γ : List DSp} {k : Nat} {f : Addr} {fd : FuncData} (Pk : Pok mg T pin xm) (G : GOk P w mg base T k Γ) (hn' : T.isN Γ.length = false) (F : FunD T.K "_law_same" "_law_same" (defArgs st_law_same) (defBody st_law_same) (defScope st_law_same) [] [] f fd) (d n : Nat) (hn : k + d + 1 ≤ n)
    (hf : T.fA Γ.length = f := by rfl) (h24 : Γ.length = 24 := by rfl) : CalK P w mg base T (n + 1) f (φ_law_same d) := by
  have key : ∀ d, CalK P w mg base T (k + d + 1) f (φ_law_same d) := fun d => by
    induction d with
    | zero =>
      exact cal_D (x := "_law_same") (st := st_law_same) (mls := []) Pk G F sc_law_same tr_law_same (fun _ _ _ _ _ _ us hl => match us, hl with | [_, _], _ => rfl) (fun l M Q E h => by rcases l with _ | ⟨_, _ | ⟨_, _ | ⟨_, l⟩⟩⟩ <;> first | rfl | exact False.elim h) (fun ds M Q E h => b_law_same (fun k' e => by omega) h)
    | succ d ih =>
      have G2 : GOk P w mg base T (k + d + 1) (Γ ++ [φ_law_same d]) := (G.mono (Nat.le_add_right k d)).snoc hn' (by rw [hf]; exact ih)
      exact cal_D (x := "_law_same") (st := st_law_same) (mls := []) Pk G2 F sc_law_same tr_law_same (fun _ _ _ _ _ _ us hl => match us, hl with | [_, _], _ => rfl) (fun l M Q E h => by rcases l with _ | ⟨_, _ | ⟨_, _ | ⟨_, l⟩⟩⟩ <;> first | rfl | exact False.elim h) (fun ds M Q E h => b_law_same (fun k' e => by
        have : d = k' := by omega
        subst this
        rw [List.getElem?_append_right (by omega), h24]; rfl) h)
  exact (key d).mono (by omega)
section
variable {P : Program} {w : World} {K : PySem.W.Frag} {mg : Str → Option Value} {base : Heap}
theorem calls0 (Pk : Pok mg (txOf K pin [] clo) pin (xmOf xms)) (c : He.SaysD fa fn K) (TB : ∀ e ∈ clo.tf.map (He.cT K), LamX.TabB base mg e.1 e.2) : GOk P w mg base (txOf K pin [] clo) 20 (Γ0.take 20) := by
  have g0 : GOk P w mg base (txOf K pin [] clo) 0 [] := .nil
  obtain ⟨fd0, F0⟩ := c.def_ 0 rfl
  have g1 : GOk P w mg base (txOf K pin [] clo) 1 (Γ0.take 1) := g0.snoc rfl (cal_D (x := "is_whole") (st := st_is_whole) (mls := []) Pk g0 F0 sc_is_whole tr_is_whole (fun _ _ _ _ _ _ us hl => match us, hl with | [_], _ => rfl) (fun l M Q E h => by first | (unfold φ_is_whole at h; split at h <;> first | rfl | exact False.elim h) | (rcases l with _ | ⟨_, _ | ⟨_, l⟩⟩ <;> first | rfl | exact False.elim h)) (fun ds M Q E h => b_is_whole h))
  obtain ⟨fd1, F1⟩ := c.def_ 1 rfl
  have g2 : GOk P w mg base (txOf K pin [] clo) 2 (Γ0.take 2) := g1.snoc rfl (cal_D (x := "shared") (st := st_shared) (mls := []) Pk g1 F1 sc_shared tr_shared (fun _ _ _ _ _ _ us hl => match us, hl with | [_, _], _ => rfl) (fun l M Q E h => by first | (unfold φ_shared at h; split at h <;> first | rfl | exact False.elim h) | (rcases l with _ | ⟨_, _ | ⟨_, _ | ⟨_, l⟩⟩⟩ <;> first | rfl | exact False.elim h)) (fun ds M Q E h => b_shared h))
  obtain ⟨fd2, F2⟩ := c.def_ 2 rfl
  have g3 : GOk P w mg base (txOf K pin [] clo) 3 (Γ0.take 3) := g2.snoc rfl (cal_DD (x := "fraction") (st := st_fraction) (mls := []) (dd := []) (φ0 := φ_fraction) 2 1 Pk g2 F2 sc_fraction tr_fraction (List.cons_ne_nil _ _) rfl (fun _ _ _ _ _ _ _ us its hu hi => match us, its, hu, hi with | [_, _], [_], _, _ => ⟨_, rfl, rfl⟩) (fun _ => .nil) (fun l M Q E h => by first | (unfold φ_fraction at h; split at h <;> first | rfl | exact False.elim h) | (rcases l with _ | ⟨_, _ | ⟨_, _ | ⟨_, l⟩⟩⟩ <;> first | rfl | exact False.elim h)) (fun l M Q E h => by rw [List.append_nil]; exact h) (fun ds M Q E h => b_fraction rfl rfl h))
  obtain ⟨fd3, F3⟩ := c.def_ 2 rfl
  have g4 : GOk P w mg base (txOf K pin [] clo) 4 (Γ0.take 4) := g3.snoc rfl (cal_DD (x := "fraction") (st := st_fraction) (mls := []) (dd := [.int 1]) (φ0 := φ_fraction) 1 0 Pk g3 F3 sc_fraction tr_fraction (List.cons_ne_nil _ _) rfl (fun _ _ _ _ _ _ _ us its hu hi => match us, its, hu, hi with | [_], [_], _, _ => ⟨_, rfl, rfl⟩) (fun _ => .cons (.int 1) .nil) (fun l M Q E h => by first | (unfold φ_fraction1 at h; split at h <;> first | rfl | exact False.elim h) | (rcases l with _ | ⟨_, _ | ⟨_, l⟩⟩ <;> first | rfl | exact False.elim h)) (fun l M Q E h => by rcases l with _ | ⟨_, _ | ⟨_, l⟩⟩ <;> first | exact h | exact False.elim h) (fun ds M Q E h => b_fraction rfl rfl h))
  have g5 : GOk P w mg base (txOf K pin [] clo) 5 (Γ0.take 5) := g4.snoc rfl (((g4 0 _ rfl).1 rfl |>.weak fun _ _ _ _ z => z.elim).mono (Nat.le_succ _))
  obtain ⟨fd5, F5⟩ := c.def_ 3 rfl
  have g6 : GOk P w mg base (txOf K pin [] clo) 6 (Γ0.take 6) := g5.snoc rfl (cal_D (x := "plus") (st := st_plus) (mls := []) Pk g5 F5 sc_plus tr_plus (fun _ _ _ _ _ _ us hl => match us, hl with | [_, _], _ => rfl) (fun l M Q E h => by first | (unfold φ_plus at h; split at h <;> first | rfl | exact False.elim h) | (rcases l with _ | ⟨_, _ | ⟨_, _ | ⟨_, l⟩⟩⟩ <;> first | rfl | exact False.elim h)) (fun ds M Q E h => b_plus rfl h))
  have g7 : GOk P w mg base (txOf K pin [] clo) 7 (Γ0.take 7) := g6.snoc rfl (((g6 0 _ rfl).1 rfl |>.weak fun _ _ _ _ z => z.elim).mono (Nat.le_succ _))
  obtain ⟨fd7, F7⟩ := c.def_ 4 rfl
  have g8 : GOk P w mg base (txOf K pin [] clo) 8 (Γ0.take 8) := g7.snoc rfl (cal_D (x := "times") (st := st_times) (mls := []) Pk g7 F7 sc_times tr_times (fun _ _ _ _ _ _ us hl => match us, hl with | [_, _], _ => rfl) (fun l M Q E h => by first | (unfold φ_times at h; split at h <;> first | rfl | exact False.elim h) | (rcases l with _ | ⟨_, _ | ⟨_, _ | ⟨_, l⟩⟩⟩ <;> first | rfl | exact False.elim h)) (fun ds M Q E h => b_times rfl h))
  obtain ⟨fd8, F8⟩ := c.def_ 5 rfl
  have g9 : GOk P w mg base (txOf K pin [] clo) 9 (Γ0.take 9) := g8.snoc rfl (cal_D (x := "over") (st := st_over) (mls := []) Pk g8 F8 sc_over tr_over (fun _ _ _ _ _ _ us hl => match us, hl with | [_, _], _ => rfl) (fun l M Q E h => by first | (unfold φ_over at h; split at h <;> first | rfl | exact False.elim h) | (rcases l with _ | ⟨_, _ | ⟨_, _ | ⟨_, l⟩⟩⟩ <;> first | rfl | exact False.elim h)) (fun ds M Q E h => b_over rfl h))
  obtain ⟨fd9, F9⟩ := c.def_ 6 rfl
  have g10 : GOk P w mg base (txOf K pin [] clo) 10 (Γ0.take 10) := g9.snoc rfl (cal_D (x := "against") (st := st_against) (mls := []) Pk g9 F9 sc_against tr_against (fun _ _ _ _ _ _ us hl => match us, hl with | [_], _ => rfl) (fun l M Q E h => by first | (unfold φ_against at h; split at h <;> first | rfl | exact False.elim h) | (rcases l with _ | ⟨_, _ | ⟨_, l⟩⟩ <;> first | rfl | exact False.elim h)) (fun ds M Q E h => b_against h))
  have g11 : GOk P w mg base (txOf K pin [] clo) 11 (Γ0.take 11) := g10.snoc rfl (((g10 0 _ rfl).1 rfl |>.weak fun _ _ _ _ z => z.elim).mono (Nat.le_succ _))
  obtain ⟨fd11, F11⟩ := c.def_ 7 rfl
  have g12 : GOk P w mg base (txOf K pin [] clo) 12 (Γ0.take 12) := g11.snoc rfl (cal_D (x := "order") (st := st_order) (mls := []) Pk g11 F11 sc_order tr_order (fun _ _ _ _ _ _ us hl => match us, hl with | [_, _], _ => rfl) (fun l M Q E h => by first | (unfold φ_order at h; split at h <;> first | rfl | exact False.elim h) | (rcases l with _ | ⟨_, _ | ⟨_, _ | ⟨_, l⟩⟩⟩ <;> first | rfl | exact False.elim h)) (fun ds M Q E h => b_order h))
  obtain ⟨fd12, F12⟩ := c.def_ 8 rfl
  have g13 : GOk P w mg base (txOf K pin [] clo) 13 (Γ0.take 13) := g12.snoc rfl (cal_D (x := "below") (st := st_below) (mls := []) Pk g12 F12 sc_below tr_below (fun _ _ _ _ _ _ us hl => match us, hl with | [_, _], _ => rfl) (fun l M Q E h => by first | (unfold φ_below at h; split at h <;> first | rfl | exact False.elim h) | (rcases l with _ | ⟨_, _ | ⟨_, _ | ⟨_, l⟩⟩⟩ <;> first | rfl | exact False.elim h)) (fun ds M Q E h => b_below rfl h))
  obtain ⟨fd13, F13⟩ := c.def_ 9 rfl
  have g14 : GOk P w mg base (txOf K pin [] clo) 14 (Γ0.take 14) := g13.snoc rfl (cal_D (x := "at_most") (st := st_at_most) (mls := []) Pk g13 F13 sc_at_most tr_at_most (fun _ _ _ _ _ _ us hl => match us, hl with | [_, _], _ => rfl) (fun l M Q E h => by first | (unfold φ_at_most at h; split at h <;> first | rfl | exact False.elim h) | (rcases l with _ | ⟨_, _ | ⟨_, _ | ⟨_, l⟩⟩⟩ <;> first | rfl | exact False.elim h)) (fun ds M Q E h => b_at_most rfl h))
  obtain ⟨fd14, F14⟩ := c.def_ 10 rfl
  have g15 : GOk P w mg base (txOf K pin [] clo) 15 (Γ0.take 15) := g14.snoc rfl (cal_D (x := "least_of") (st := st_least_of) (mls := []) Pk g14 F14 sc_least_of tr_least_of (fun _ _ _ _ _ _ us hl => match us, hl with | [_], _ => rfl) (fun l M Q E h => by first | (unfold φ_least_of at h; split at h <;> first | rfl | exact False.elim h) | (rcases l with _ | ⟨_, _ | ⟨_, l⟩⟩ <;> first | rfl | exact False.elim h)) (fun ds M Q E h => b_least_of rfl h))
  obtain ⟨fd15, F15⟩ := c.def_ 11 rfl
  have g16 : GOk P w mg base (txOf K pin [] clo) 16 (Γ0.take 16) := g15.snoc rfl (cal_D (x := "most_of") (st := st_most_of) (mls := []) Pk g15 F15 sc_most_of tr_most_of (fun _ _ _ _ _ _ us hl => match us, hl with | [_], _ => rfl) (fun l M Q E h => by first | (unfold φ_most_of at h; split at h <;> first | rfl | exact False.elim h) | (rcases l with _ | ⟨_, _ | ⟨_, l⟩⟩ <;> first | rfl | exact False.elim h)) (fun ds M Q E h => b_most_of rfl rfl h))
  obtain ⟨fd16, F16⟩ := c.def_ 12 rfl
  have g17 : GOk P w mg base (txOf K pin [] clo) 17 (Γ0.take 17) := g16.snoc rfl (cal_D (x := "floor") (st := st_floor) (mls := []) Pk g16 F16 sc_floor tr_floor (fun _ _ _ _ _ _ us hl => match us, hl with | [_], _ => rfl) (fun l M Q E h => by first | (unfold φ_floor at h; split at h <;> first | rfl | exact False.elim h) | (rcases l with _ | ⟨_, _ | ⟨_, l⟩⟩ <;> first | rfl | exact False.elim h)) (fun ds M Q E h => b_floor h))
  have g18 : GOk P w mg base (txOf K pin [] clo) 18 (Γ0.take 18) := g17.snoc rfl (((g17 0 _ rfl).1 rfl |>.weak fun _ _ _ _ z => z.elim).mono (Nat.le_succ _))
  obtain ⟨fd18, F18⟩ := c.def_ 14 rfl
  have g19 : GOk P w mg base (txOf K pin [] clo) 19 (Γ0.take 19) := g18.snoc rfl (cal_D (x := "raised") (st := st_raised) (mls := []) Pk g18 F18 sc_raised tr_raised (fun _ _ _ _ _ _ us hl => match us, hl with | [_, _], _ => rfl) (fun l M Q E h => by first | (unfold φ_raised at h; split at h <;> first | rfl | exact False.elim h) | (rcases l with _ | ⟨_, _ | ⟨_, _ | ⟨_, l⟩⟩⟩ <;> first | rfl | exact False.elim h)) (fun ds M Q E h => b_raised h))
  obtain ⟨fd19, F19⟩ := c.def_ 13 rfl
  have g20 : GOk P w mg base (txOf K pin [] clo) 20 (Γ0.take 20) := g19.snoc rfl (cal_D (x := "power") (st := st_power) (mls := []) Pk g19 F19 sc_power tr_power (fun _ _ _ _ _ _ us hl => match us, hl with | [_, _], _ => rfl) (fun l M Q E h => by first | (unfold φ_power at h; split at h <;> first | rfl | exact False.elim h) | (rcases l with _ | ⟨_, _ | ⟨_, _ | ⟨_, l⟩⟩⟩ <;> first | rfl | exact False.elim h)) (fun ds M Q E h => b_power rfl h))
  exact g20
theorem calls1 (Pk : Pok mg (txOf K pin [] clo) pin (xmOf xms)) (c : He.SaysD fa fn K) (TB : ∀ e ∈ clo.tf.map (He.cT K), LamX.TabB base mg e.1 e.2) (g20 : GOk P w mg base (txOf K pin [] clo) 20 (Γ0.take 20)) : GOk P w mg base (txOf K pin [] clo) 45 (Γ0.take 40) := by
  have g21 : GOk P w mg base (txOf K pin [] clo) 21 (Γ0.take 21) := g20.snoc rfl (((g20 0 _ rfl).1 rfl |>.weak fun _ _ _ _ z => z.elim).mono (Nat.le_succ _))
  obtain ⟨fd21, F21⟩ := c.def_ 15 rfl
  have g22 : GOk P w mg base (txOf K pin [] clo) 22 (Γ0.take 22) := g21.snoc rfl (cal_D (x := "digits_in") (st := st_digits_in) (mls := [(60, 11)]) Pk g21 F21 sc_digits_in tr_digits_in (fun _ _ _ _ _ _ us hl => match us, hl with | [_, _], _ => rfl) (fun l M Q E h => by first | (unfold φ_digits_in at h; split at h <;> first | rfl | exact False.elim h) | (rcases l with _ | ⟨_, _ | ⟨_, _ | ⟨_, l⟩⟩⟩ <;> first | rfl | exact False.elim h)) (fun ds M Q E h => b_digits_in h))
  obtain ⟨fd22, F22⟩ := c.def_ 52 rfl
  have g23 : GOk P w mg base (txOf K pin [] clo) 23 (Γ0.take 23) := g22.snoc rfl (cal_D (x := "_law_draws") (st := st_law_draws) (mls := [(303, 11)]) Pk g22 F22 sc_law_draws tr_law_draws (fun _ _ _ _ _ _ us hl => match us, hl with | [_], _ => rfl) (fun l M Q E h => by first | (unfold φ_law_draws at h; split at h <;> first | rfl | exact False.elim h) | (rcases l with _ | ⟨_, _ | ⟨_, l⟩⟩ <;> first | rfl | exact False.elim h)) (fun ds M Q E h => b_law_draws h))
  obtain ⟨fd23, F23⟩ := c.def_ 53 rfl
  have g24 : GOk P w mg base (txOf K pin [] clo) 24 (Γ0.take 24) := g23.snoc rfl (cal_D (x := "_law_draw") (st := st_law_draw) (mls := []) Pk g23 F23 sc_law_draw tr_law_draw (fun _ _ _ _ _ _ us hl => match us, hl with | [_, _], _ => rfl) (fun l M Q E h => by first | (unfold φ_law_draw at h; split at h <;> first | rfl | exact False.elim h) | (rcases l with _ | ⟨_, _ | ⟨_, _ | ⟨_, l⟩⟩⟩ <;> first | rfl | exact False.elim h)) (fun ds M Q E h => b_law_draw h))
  obtain ⟨fd24, F24⟩ := c.def_ 54 rfl
  have g25 : GOk P w mg base (txOf K pin [] clo) 30 (Γ0.take 25) := (GOk.mono (k' := 29) g24 (by decide)).snoc rfl (cal_same Pk g24 rfl F24 4 29 (by decide))
  have g26 : GOk P w mg base (txOf K pin [] clo) 31 (Γ0.take 26) := g25.snoc rfl (((g25 0 _ rfl).1 rfl |>.weak fun _ _ _ _ z => z.elim).mono (Nat.le_succ _))
  have g27 : GOk P w mg base (txOf K pin [] clo) 32 (Γ0.take 27) := g26.snoc rfl (((g26 0 _ rfl).1 rfl |>.weak fun _ _ _ _ z => z.elim).mono (Nat.le_succ _))
  obtain ⟨fd27, F27⟩ := c.def_ 16 rfl
  have g28 : GOk P w mg base (txOf K pin [] clo) 33 (Γ0.take 28) := g27.snoc rfl (cal_D (x := "is_format") (st := st_is_format) (mls := []) Pk g27 F27 sc_is_format tr_is_format (fun _ _ _ _ _ _ us hl => match us, hl with | [_], _ => rfl) (fun l M Q E h => by first | (unfold φ_is_format at h; split at h <;> first | rfl | exact False.elim h) | (rcases l with _ | ⟨_, _ | ⟨_, l⟩⟩ <;> first | rfl | exact False.elim h)) (fun ds M Q E h => b_is_format rfl h))
  obtain ⟨fd28, F28⟩ := c.def_ 17 rfl
  have g29 : GOk P w mg base (txOf K pin [] clo) 34 (Γ0.take 29) := g28.snoc rfl (cal_D (x := "look_at_format") (st := st_look_at_format) (mls := []) Pk g28 F28 sc_look_at_format tr_look_at_format (fun _ _ _ _ _ _ us hl => match us, hl with | [_], _ => rfl) (fun l M Q E h => by first | (unfold φ_look_at_format at h; split at h <;> first | rfl | exact False.elim h) | (rcases l with _ | ⟨_, _ | ⟨_, l⟩⟩ <;> first | rfl | exact False.elim h)) (fun ds M Q E h => b_look_at_format rfl h))
  obtain ⟨fd29, F29⟩ := c.def_ 18 rfl
  have g30 : GOk P w mg base (txOf K pin [] clo) 35 (Γ0.take 30) := g29.snoc rfl (cal_D (x := "is_mode") (st := st_is_mode) (mls := []) Pk g29 F29 sc_is_mode tr_is_mode (fun _ _ _ _ _ _ us hl => match us, hl with | [_], _ => rfl) (fun l M Q E h => by first | (unfold φ_is_mode at h; split at h <;> first | rfl | exact False.elim h) | (rcases l with _ | ⟨_, _ | ⟨_, l⟩⟩ <;> first | rfl | exact False.elim h)) (fun ds M Q E h => b_is_mode h))
  obtain ⟨fd30, F30⟩ := c.def_ 19 rfl
  have g31 : GOk P w mg base (txOf K pin [] clo) 36 (Γ0.take 31) := g30.snoc rfl (cal_D (x := "look_at_mode") (st := st_look_at_mode) (mls := []) Pk g30 F30 sc_look_at_mode tr_look_at_mode (fun _ _ _ _ _ _ us hl => match us, hl with | [_], _ => rfl) (fun l M Q E h => by first | (unfold φ_look_at_mode at h; split at h <;> first | rfl | exact False.elim h) | (rcases l with _ | ⟨_, _ | ⟨_, l⟩⟩ <;> first | rfl | exact False.elim h)) (fun ds M Q E h => b_look_at_mode rfl h))
  obtain ⟨fd31, F31⟩ := c.def_ 20 rfl
  have g32 : GOk P w mg base (txOf K pin [] clo) 37 (Γ0.take 32) := g31.snoc rfl (cal_D (x := "full") (st := st_full) (mls := []) Pk g31 F31 sc_full tr_full (fun _ _ _ _ _ _ us hl => match us, hl with | [_], _ => rfl) (fun l M Q E h => by first | (unfold φ_full at h; split at h <;> first | rfl | exact False.elim h) | (rcases l with _ | ⟨_, _ | ⟨_, l⟩⟩ <;> first | rfl | exact False.elim h)) (fun ds M Q E h => b_full rfl h))
  obtain ⟨fd32, F32⟩ := c.def_ 21 rfl
  have g33 : GOk P w mg base (txOf K pin [] clo) 38 (Γ0.take 33) := g32.snoc rfl (cal_D (x := "above") (st := st_above) (mls := []) Pk g32 F32 sc_above tr_above (fun _ _ _ _ _ _ us hl => match us, hl with | [_], _ => rfl) (fun l M Q E h => by first | (unfold φ_above at h; split at h <;> first | rfl | exact False.elim h) | (rcases l with _ | ⟨_, _ | ⟨_, l⟩⟩ <;> first | rfl | exact False.elim h)) (fun ds M Q E h => b_above rfl h))
  obtain ⟨fd33, F33⟩ := c.def_ 22 rfl
  have g34 : GOk P w mg base (txOf K pin [] clo) 39 (Γ0.take 34) := g33.snoc rfl (cal_D (x := "how_many") (st := st_how_many) (mls := []) Pk g33 F33 sc_how_many tr_how_many (fun _ _ _ _ _ _ us hl => match us, hl with | [_], _ => rfl) (fun l M Q E h => by first | (unfold φ_how_many at h; split at h <;> first | rfl | exact False.elim h) | (rcases l with _ | ⟨_, _ | ⟨_, l⟩⟩ <;> first | rfl | exact False.elim h)) (fun ds M Q E h => b_how_many rfl rfl rfl h))
  have g35 : GOk P w mg base (txOf K pin [] clo) 40 (Γ0.take 35) := g34.snoc rfl (((g34 0 _ rfl).1 rfl |>.weak fun _ _ _ _ z => z.elim).mono (Nat.le_succ _))
  have g36 : GOk P w mg base (txOf K pin [] clo) 41 (Γ0.take 36) := g35.snoc rfl (((g35 0 _ rfl).1 rfl |>.weak fun _ _ _ _ z => z.elim).mono (Nat.le_succ _))
  have g37 : GOk P w mg base (txOf K pin [] clo) 42 (Γ0.take 37) := g36.snoc rfl (((g36 0 _ rfl).1 rfl |>.weak fun _ _ _ _ z => z.elim).mono (Nat.le_succ _))
  obtain ⟨fd37, F37⟩ := c.def_ 23 rfl
  have g38 : GOk P w mg base (txOf K pin [] clo) 43 (Γ0.take 38) := g37.snoc rfl (cal_D (x := "is_value") (st := st_is_value) (mls := []) Pk g37 F37 sc_is_value tr_is_value (fun _ _ _ _ _ _ us hl => match us, hl with | [_, _], _ => rfl) (fun l M Q E h => by first | (unfold φ_is_value at h; split at h <;> first | rfl | exact False.elim h) | (rcases l with _ | ⟨_, _ | ⟨_, _ | ⟨_, l⟩⟩⟩ <;> first | rfl | exact False.elim h)) (fun ds M Q E h => b_is_value rfl rfl rfl rfl h))
  obtain ⟨fd38, F38⟩ := c.def_ 24 rfl
  have g39 : GOk P w mg base (txOf K pin [] clo) 44 (Γ0.take 39) := g38.snoc rfl (cal_D (x := "look_at_value") (st := st_look_at_value) (mls := []) Pk g38 F38 sc_look_at_value tr_look_at_value (fun _ _ _ _ _ _ us hl => match us, hl with | [_, _], _ => rfl) (fun l M Q E h => by first | (unfold φ_look_at_value at h; split at h <;> first | rfl | exact False.elim h) | (rcases l with _ | ⟨_, _ | ⟨_, _ | ⟨_, l⟩⟩⟩ <;> first | rfl | exact False.elim h)) (fun ds M Q E h => b_look_at_value rfl h))
  obtain ⟨fd39, F39⟩ := c.def_ 25 rfl
  have g40 : GOk P w mg base (txOf K pin [] clo) 45 (Γ0.take 40) := g39.snoc rfl (cal_D (x := "exact") (st := st_exact) (mls := []) Pk g39 F39 sc_exact tr_exact (fun _ _ _ _ _ _ us hl => match us, hl with | [_, _], _ => rfl) (fun l M Q E h => by first | (unfold φ_exact at h; split at h <;> first | rfl | exact False.elim h) | (rcases l with _ | ⟨_, _ | ⟨_, _ | ⟨_, l⟩⟩⟩ <;> first | rfl | exact False.elim h)) (fun ds M Q E h => b_exact rfl rfl rfl h))
  exact g40
theorem calls2 (Pk : Pok mg (txOf K pin [] clo) pin (xmOf xms)) (c : He.SaysD fa fn K) (TB : ∀ e ∈ clo.tf.map (He.cT K), LamX.TabB base mg e.1 e.2) (g40 : GOk P w mg base (txOf K pin [] clo) 45 (Γ0.take 40)) : GOk P w mg base (txOf K pin [] clo) 65 (Γ0.take 60) := by
  obtain ⟨fd40, F40⟩ := c.def_ 26 rfl
  have g41 : GOk P w mg base (txOf K pin [] clo) 46 (Γ0.take 41) := g40.snoc rfl (cal_D (x := "rank") (st := st_rank) (mls := []) Pk g40 F40 sc_rank tr_rank (fun _ _ _ _ _ _ us hl => match us, hl with | [_, _], _ => rfl) (fun l M Q E h => by first | (unfold φ_rank at h; split at h <;> first | rfl | exact False.elim h) | (rcases l with _ | ⟨_, _ | ⟨_, _ | ⟨_, l⟩⟩⟩ <;> first | rfl | exact False.elim h)) (fun ds M Q E h => b_rank rfl rfl rfl rfl h))
  have g42 : GOk P w mg base (txOf K pin [] clo) 47 (Γ0.take 42) := g41.snoc rfl (((g41 0 _ rfl).1 rfl |>.weak fun _ _ _ _ z => z.elim).mono (Nat.le_succ _))
  have g43 : GOk P w mg base (txOf K pin [] clo) 48 (Γ0.take 43) := g42.snoc rfl (((g42 0 _ rfl).1 rfl |>.weak fun _ _ _ _ z => z.elim).mono (Nat.le_succ _))
  obtain ⟨fd43, F43⟩ := c.def_ 28 rfl
  have g44 : GOk P w mg base (txOf K pin [] clo) 49 (Γ0.take 44) := g43.snoc rfl (cal_D (x := "is_finite") (st := st_is_finite) (mls := []) Pk g43 F43 sc_is_finite tr_is_finite (fun _ _ _ _ _ _ us hl => match us, hl with | [_], _ => rfl) (fun l M Q E h => by first | (unfold φ_is_finite at h; split at h <;> first | rfl | exact False.elim h) | (rcases l with _ | ⟨_, _ | ⟨_, l⟩⟩ <;> first | rfl | exact False.elim h)) (fun ds M Q E h => b_is_finite h))
  obtain ⟨fd44, F44⟩ := c.def_ 29 rfl
  have mk44 : ∃ (c0 Pt : Addr), fd44.code = .ref c0 ∧ LamX.TabB base mg c0 Pt ∧ (Pt, clo.nmf) ∈ (txOf K pin [] clo).tabs := by
    obtain ⟨oc, od, dV, kV, doc, pm, an, cdv, ct, osl, e1, lk, hcd, _, _⟩ := F44.ex
    obtain ⟨c0, e2⟩ := He.codeIn_ref hcd
    have e3 : fd44.code = .ref c0 := by rw [e1, ← e2]
    have e4 : He.codeOf K ("oracle_of", none) = c0 := He.codeOf_eq lk e3
    have m : He.cT K ("oracle_of", none) ∈ clo.tf.map (He.cT K) := List.mem_map.mpr ⟨("oracle_of", none), by simp [clo], rfl⟩
    have tb := TB _ m
    have e5 : (He.cT K ("oracle_of", none)).1 = c0 := e4
    rw [e5] at tb
    exact ⟨c0, _, e3, tb, List.mem_map.mpr ⟨("oracle_of", none), by simp [clo], rfl⟩⟩
  obtain ⟨c44, P44, hc44, tb44, ht44⟩ := mk44
  have g45 : GOk P w mg base (txOf K pin [] clo) 50 (Γ0.take 45) := g44.snoc rfl ⟨fd44, (["base", "number"] : List Str), [], [], [], (fun l M Q _ => Q (.clo 45 l) M), maker_D (T := (txOf K pin [] clo)) (x := "oracle_of") (q := "oracle_of") (nm := "told") (st1 := st_told_oracle_of) (qp := "oracle_of.<locals>.") (N := (["base", "number", "told"] : List Str)) (nmf := clo.nmf) (i := 2) F44 sc_oracle_of hc44 tb44 rfl (fun _ _ _ => rfl) (fun _ _ => rfl) rfl rfl ht44 rfl (fun e he _ => by
      obtain ⟨d, _, rfl⟩ := List.mem_map.mp he
      rfl) (by decide +kernel) (by decide +kernel) rfl rfl (fun _ => rfl) rfl (.inl (by decide +kernel)) (by decide) rfl rfl, F44.bindsN (fun _ _ _ _ _ _ us hl => match us, hl with | [_, _], _ => rfl), .nil, fun _ => .nil, fun l M Q E h => h.1, fun l M Q E h => by rw [List.append_nil]; exact h.2, F44.kp⟩
  have g46 : GOk P w mg base (txOf K pin [] clo) 51 (Γ0.take 46) := g45.snocN rfl ⟨_, ψ_told, nok_D (T := (txOf K pin [] clo)) (j := 45) (sc := C8.fnScope st_told_oracle_of) (body := C8.fnBody st_told_oracle_of) (N := (["exponent", "base", "number", "scaled", "m", "left"] : List Str)) (ps := (["exponent"] : List Str)) (mls := []) (fun _ _ => ⟨rfl, rfl, rfl, rfl⟩) sc_told_oracle_of (fun _ _ _ _ _ us hl => match us, hl with | [_], _ => rfl) Pk g45 tr_told_oracle_of (fun ds q h _ => b_told rfl rfl rfl h), fun l M Q E h => ⟨by obtain ⟨_, _, _, e, _⟩ := h.2; rw [e]; rfl, h.1, h.2⟩⟩
  obtain ⟨fd46, F46⟩ := c.def_ 30 rfl
  have g47 : GOk P w mg base (txOf K pin [] clo) 52 (Γ0.take 47) := g46.snoc rfl (cal_D (x := "goes_up") (st := st_goes_up) (mls := []) Pk g46 F46 sc_goes_up tr_goes_up (fun _ _ _ _ _ _ us hl => match us, hl with | [_, _, _, _], _ => rfl) (fun l M Q E h => by first | (unfold φ_goes_up at h; split at h <;> first | rfl | exact False.elim h) | (rcases l with _ | ⟨_, _ | ⟨_, _ | ⟨_, _ | ⟨_, _ | ⟨_, l⟩⟩⟩⟩⟩ <;> first | rfl | exact False.elim h)) (fun ds M Q E h => b_goes_up h))
  obtain ⟨fd47, F47⟩ := c.def_ 31 rfl
  have g48 : GOk P w mg base (txOf K pin [] clo) 53 (Γ0.take 48) := g47.snoc rfl (cal_D (x := "beyond") (st := st_beyond) (mls := []) Pk g47 F47 sc_beyond tr_beyond (fun _ _ _ _ _ _ us hl => match us, hl with | [_, _, _], _ => rfl) (fun l M Q E h => by first | (unfold φ_beyond at h; split at h <;> first | rfl | exact False.elim h) | (rcases l with _ | ⟨_, _ | ⟨_, _ | ⟨_, _ | ⟨_, l⟩⟩⟩⟩ <;> first | rfl | exact False.elim h)) (fun ds M Q E h => b_beyond rfl h))
  obtain ⟨fd48, F48⟩ := c.def_ 33 rfl
  have g49 : GOk P w mg base (txOf K pin [] clo) 54 (Γ0.take 49) := g48.snoc rfl (cal_D (x := "put_low") (st := st_put_low) (mls := []) Pk g48 F48 sc_put_low tr_put_low (fun _ _ _ _ _ _ us hl => match us, hl with | [_, _, _, _], _ => rfl) (fun l M Q E h => by first | (unfold φ_put_low at h; split at h <;> first | rfl | exact False.elim h) | (rcases l with _ | ⟨_, _ | ⟨_, _ | ⟨_, _ | ⟨_, _ | ⟨_, l⟩⟩⟩⟩⟩ <;> first | rfl | exact False.elim h)) (fun ds M Q E h => b_put_low rfl h))
  obtain ⟨fd49, F49⟩ := c.def_ 32 rfl
  have g50 : GOk P w mg base (txOf K pin [] clo) 55 (Γ0.take 50) := g49.snoc rfl (cal_D (x := "put") (st := st_put) (mls := []) Pk g49 F49 sc_put tr_put (fun _ _ _ _ _ _ us hl => match us, hl with | [_, _, _, _], _ => rfl) (fun l M Q E h => by first | (unfold φ_put at h; split at h <;> first | rfl | exact False.elim h) | (rcases l with _ | ⟨_, _ | ⟨_, _ | ⟨_, _ | ⟨_, _ | ⟨_, l⟩⟩⟩⟩⟩ <;> first | rfl | exact False.elim h)) (fun ds M Q E h => b_put rfl rfl rfl rfl rfl rfl rfl h))
  obtain ⟨fd50, F50⟩ := c.def_ 34 rfl
  have g51 : GOk P w mg base (txOf K pin [] clo) 56 (Γ0.take 51) := g50.snoc rfl (cal_DD (x := "rounded") (st := st_rounded) (mls := []) (dd := []) (φ0 := φ_rounded) 4 1 Pk g50 F50 sc_rounded tr_rounded (List.cons_ne_nil _ _) rfl (fun _ _ _ _ _ _ _ us its hu hi => match us, its, hu, hi with | [_, _, _, _], [_], _, _ => ⟨_, rfl, rfl⟩) (fun _ => .nil) (fun l M Q E h => by first | (unfold φ_rounded at h; split at h <;> first | rfl | exact False.elim h) | (rcases l with _ | ⟨_, _ | ⟨_, _ | ⟨_, _ | ⟨_, _ | ⟨_, l⟩⟩⟩⟩⟩ <;> first | rfl | exact False.elim h)) (fun l M Q E h => by rw [List.append_nil]; exact h) (fun ds M Q E h => b_rounded rfl rfl rfl rfl h))
  obtain ⟨fd51, F51⟩ := c.def_ 34 rfl
  have g52 : GOk P w mg base (txOf K pin [] clo) 57 (Γ0.take 52) := g51.snoc rfl (cal_DD (x := "rounded") (st := st_rounded) (mls := []) (dd := [.int 1]) (φ0 := φ_rounded) 3 0 Pk g51 F51 sc_rounded tr_rounded (List.cons_ne_nil _ _) rfl (fun _ _ _ _ _ _ _ us its hu hi => match us, its, hu, hi with | [_, _, _], [_], _, _ => ⟨_, rfl, rfl⟩) (fun _ => .cons (.int 1) .nil) (fun l M Q E h => by first | (unfold φ_rounded3 at h; split at h <;> first | rfl | exact False.elim h) | (rcases l with _ | ⟨_, _ | ⟨_, _ | ⟨_, _ | ⟨_, l⟩⟩⟩⟩ <;> first | rfl | exact False.elim h)) (fun l M Q E h => by rcases l with _ | ⟨_, _ | ⟨_, _ | ⟨_, _ | ⟨_, l⟩⟩⟩⟩ <;> first | exact h | exact False.elim h) (fun ds M Q E h => b_rounded rfl rfl rfl rfl h))
  have g53 : GOk P w mg base (txOf K pin [] clo) 58 (Γ0.take 53) := g52.snoc rfl (((g52 0 _ rfl).1 rfl |>.weak fun _ _ _ _ z => z.elim).mono (Nat.le_succ _))
  have g54 : GOk P w mg base (txOf K pin [] clo) 59 (Γ0.take 54) := g53.snoc rfl (((g53 0 _ rfl).1 rfl |>.weak fun _ _ _ _ z => z.elim).mono (Nat.le_succ _))
  have g55 : GOk P w mg base (txOf K pin [] clo) 60 (Γ0.take 55) := g54.snoc rfl (((g54 0 _ rfl).1 rfl |>.weak fun _ _ _ _ z => z.elim).mono (Nat.le_succ _))
  have g56 : GOk P w mg base (txOf K pin [] clo) 61 (Γ0.take 56) := g55.snoc rfl (((g55 0 _ rfl).1 rfl |>.weak fun _ _ _ _ z => z.elim).mono (Nat.le_succ _))
  have g57 : GOk P w mg base (txOf K pin [] clo) 62 (Γ0.take 57) := g56.snoc rfl (((g56 0 _ rfl).1 rfl |>.weak fun _ _ _ _ z => z.elim).mono (Nat.le_succ _))
  have g58 : GOk P w mg base (txOf K pin [] clo) 63 (Γ0.take 58) := g57.snoc rfl (((g57 0 _ rfl).1 rfl |>.weak fun _ _ _ _ z => z.elim).mono (Nat.le_succ _))
  have g59 : GOk P w mg base (txOf K pin [] clo) 64 (Γ0.take 59) := g58.snoc rfl (((g58 0 _ rfl).1 rfl |>.weak fun _ _ _ _ z => z.elim).mono (Nat.le_succ _))
  have g60 : GOk P w mg base (txOf K pin [] clo) 65 (Γ0.take 60) := g59.snoc rfl (((g59 0 _ rfl).1 rfl |>.weak fun _ _ _ _ z => z.elim).mono (Nat.le_succ _))
  exact g60
theorem calls3 (Pk : Pok mg (txOf K pin [] clo) pin (xmOf xms)) (c : He.SaysD fa fn K) (TB : ∀ e ∈ clo.tf.map (He.cT K), LamX.TabB base mg e.1 e.2) (g60 : GOk P w mg base (txOf K pin [] clo) 65 (Γ0.take 60)) : GOk P w mg base (txOf K pin [] clo) 85 (Γ0.take 80) := by
  have g61 : GOk P w mg base (txOf K pin [] clo) 66 (Γ0.take 61) := g60.snoc rfl (((g60 0 _ rfl).1 rfl |>.weak fun _ _ _ _ z => z.elim).mono (Nat.le_succ _))
  obtain ⟨fd61, F61⟩ := c.def_ 55 rfl
  have g62 : GOk P w mg base (txOf K pin [] clo) 67 (Γ0.take 62) := g61.snoc rfl (cal_D (x := "_law_raise") (st := st_law_raise) (mls := []) Pk g61 F61 sc_law_raise tr_law_raise (fun _ _ _ _ _ _ us hl => match us, hl with | [_, _], _ => rfl) (fun l M Q E h => by first | (unfold φ_law_raise at h; split at h <;> first | rfl | exact False.elim h) | (rcases l with _ | ⟨_, _ | ⟨_, _ | ⟨_, l⟩⟩⟩ <;> first | rfl | exact False.elim h)) (fun ds M Q E h => b_law_raise h))
  obtain ⟨fd62, F62⟩ := c.def_ 56 rfl
  have g63 : GOk P w mg base (txOf K pin [] clo) 68 (Γ0.take 63) := g62.snoc rfl (cal_D (x := "_law_format") (st := st_law_format) (mls := []) Pk g62 F62 sc_law_format tr_law_format (fun _ _ _ _ _ _ us hl => match us, hl with | [_], _ => rfl) (fun l M Q E h => by first | (unfold φ_law_format at h; split at h <;> first | rfl | exact False.elim h) | (rcases l with _ | ⟨_, _ | ⟨_, l⟩⟩ <;> first | rfl | exact False.elim h)) (fun ds M Q E h => b_law_format rfl h))
  have g64 : GOk P w mg base (txOf K pin [] clo) 69 (Γ0.take 64) := g63.snoc rfl (((g63 0 _ rfl).1 rfl |>.weak fun _ _ _ _ z => z.elim).mono (Nat.le_succ _))
  obtain ⟨fd64, F64⟩ := c.def_ 57 rfl
  have g65 : GOk P w mg base (txOf K pin [] clo) 70 (Γ0.take 65) := g64.snoc rfl (cal_D (x := "_law_goes") (st := st_law_goes) (mls := []) Pk g64 F64 sc_law_goes tr_law_goes (fun _ _ _ _ _ _ us hl => match us, hl with | [_, _, _, _, _], _ => rfl) (fun l M Q E h => by first | (unfold φ_law_goes at h; split at h <;> first | rfl | exact False.elim h) | (rcases l with _ | ⟨_, _ | ⟨_, _ | ⟨_, _ | ⟨_, _ | ⟨_, _ | ⟨_, l⟩⟩⟩⟩⟩⟩ <;> first | rfl | exact False.elim h)) (fun ds M Q E h => b_law_goes h))
  obtain ⟨fd65, F65⟩ := c.def_ 58 rfl
  have g66 : GOk P w mg base (txOf K pin [] clo) 71 (Γ0.take 66) := g65.snoc rfl (cal_D (x := "_law_below") (st := st_law_below) (mls := []) Pk g65 F65 sc_law_below tr_law_below (fun _ _ _ _ _ _ us hl => match us, hl with | [_, _, _, _, _, _], _ => rfl) (fun l M Q E h => by first | (unfold φ_law_below at h; split at h <;> first | rfl | exact False.elim h) | (rcases l with _ | ⟨_, _ | ⟨_, _ | ⟨_, _ | ⟨_, _ | ⟨_, _ | ⟨_, _ | ⟨_, l⟩⟩⟩⟩⟩⟩⟩ <;> first | rfl | exact False.elim h)) (fun ds M Q E h => b_law_below h))
  obtain ⟨fd66, F66⟩ := c.def_ 59 rfl
  have g67 : GOk P w mg base (txOf K pin [] clo) 72 (Γ0.take 67) := g66.snoc rfl (cal_D (x := "_law_round") (st := st_law_round) (mls := []) Pk g66 F66 sc_law_round tr_law_round (fun _ _ _ _ _ _ us hl => match us, hl with | [_, _, _, _, _], _ => rfl) (fun l M Q E h => by first | (unfold φ_law_round at h; split at h <;> first | rfl | exact False.elim h) | (rcases l with _ | ⟨_, _ | ⟨_, _ | ⟨_, _ | ⟨_, _ | ⟨_, _ | ⟨_, l⟩⟩⟩⟩⟩⟩ <;> first | rfl | exact False.elim h)) (fun ds M Q E h => b_law_round rfl rfl rfl h))
  obtain ⟨fd67, F67⟩ := c.def_ 60 rfl
  have g68 : GOk P w mg base (txOf K pin [] clo) 73 (Γ0.take 68) := g67.snoc rfl (cal_D (x := "_law_exact") (st := st_law_exact) (mls := []) Pk g67 F67 sc_law_exact tr_law_exact (fun _ _ _ _ _ _ us hl => match us, hl with | [_, _], _ => rfl) (fun l M Q E h => by first | (unfold φ_law_exact at h; split at h <;> first | rfl | exact False.elim h) | (rcases l with _ | ⟨_, _ | ⟨_, _ | ⟨_, l⟩⟩⟩ <;> first | rfl | exact False.elim h)) (fun ds M Q E h => b_law_exact rfl h))
  obtain ⟨fd68, F68⟩ := c.def_ 61 rfl
  have g69 : GOk P w mg base (txOf K pin [] clo) 74 (Γ0.take 69) := g68.snoc rfl (cal_D (x := "_law_number") (st := st_law_number) (mls := []) Pk g68 F68 sc_law_number tr_law_number (fun _ _ _ _ _ _ us hl => match us, hl with | [_, _], _ => rfl) (fun l M Q E h => by first | (unfold φ_law_number at h; split at h <;> first | rfl | exact False.elim h) | (rcases l with _ | ⟨_, _ | ⟨_, _ | ⟨_, l⟩⟩⟩ <;> first | rfl | exact False.elim h)) (fun ds M Q E h => b_law_number rfl rfl h))
  have g70 : GOk P w mg base (txOf K pin [] clo) 75 (Γ0.take 70) := g69.snoc rfl (((g69 0 _ rfl).1 rfl |>.weak fun _ _ _ _ z => z.elim).mono (Nat.le_succ _))
  have g71 : GOk P w mg base (txOf K pin [] clo) 76 (Γ0.take 71) := g70.snoc rfl (((g70 0 _ rfl).1 rfl |>.weak fun _ _ _ _ z => z.elim).mono (Nat.le_succ _))
  have g72 : GOk P w mg base (txOf K pin [] clo) 77 (Γ0.take 72) := g71.snoc rfl (((g71 0 _ rfl).1 rfl |>.weak fun _ _ _ _ z => z.elim).mono (Nat.le_succ _))
  have g73 : GOk P w mg base (txOf K pin [] clo) 78 (Γ0.take 73) := g72.snoc rfl (((g72 0 _ rfl).1 rfl |>.weak fun _ _ _ _ z => z.elim).mono (Nat.le_succ _))
  have g74 : GOk P w mg base (txOf K pin [] clo) 79 (Γ0.take 74) := g73.snoc rfl (((g73 0 _ rfl).1 rfl |>.weak fun _ _ _ _ z => z.elim).mono (Nat.le_succ _))
  obtain ⟨fd74, F74⟩ := c.def_ 62 rfl
  have g75 : GOk P w mg base (txOf K pin [] clo) 80 (Γ0.take 75) := g74.snoc rfl (cal_D (x := "_law_fraction") (st := st_law_fraction) (mls := []) Pk g74 F74 sc_law_fraction tr_law_fraction (fun _ _ _ _ _ _ us hl => match us, hl with | [_], _ => rfl) (fun l M Q E h => by first | (unfold φ_law_fraction at h; split at h <;> first | rfl | exact False.elim h) | (rcases l with _ | ⟨_, _ | ⟨_, l⟩⟩ <;> first | rfl | exact False.elim h)) (fun ds M Q E h => b_law_fraction rfl h))
  obtain ⟨fd75, F75⟩ := c.def_ 63 rfl
  have g76 : GOk P w mg base (txOf K pin [] clo) 81 (Γ0.take 76) := g75.snoc rfl (cal_D (x := "_law_pick") (st := st_law_pick) (mls := []) Pk g75 F75 sc_law_pick tr_law_pick (fun _ _ _ _ _ _ us hl => match us, hl with | [_, _], _ => rfl) (fun l M Q E h => by first | (unfold φ_law_pick at h; split at h <;> first | rfl | exact False.elim h) | (rcases l with _ | ⟨_, _ | ⟨_, _ | ⟨_, l⟩⟩⟩ <;> first | rfl | exact False.elim h)) (fun ds M Q E h => b_law_pick rfl h))
  have g77 : GOk P w mg base (txOf K pin [] clo) 82 (Γ0.take 77) := g76.snoc rfl (((g76 0 _ rfl).1 rfl |>.weak fun _ _ _ _ z => z.elim).mono (Nat.le_succ _))
  have g78 : GOk P w mg base (txOf K pin [] clo) 83 (Γ0.take 78) := g77.snoc rfl (((g77 0 _ rfl).1 rfl |>.weak fun _ _ _ _ z => z.elim).mono (Nat.le_succ _))
  have g79 : GOk P w mg base (txOf K pin [] clo) 84 (Γ0.take 79) := g78.snoc rfl (((g78 0 _ rfl).1 rfl |>.weak fun _ _ _ _ z => z.elim).mono (Nat.le_succ _))
  have g80 : GOk P w mg base (txOf K pin [] clo) 85 (Γ0.take 80) := g79.snoc rfl (((g79 0 _ rfl).1 rfl |>.weak fun _ _ _ _ z => z.elim).mono (Nat.le_succ _))
  exact g80
theorem calls4 (Pk : Pok mg (txOf K pin [] clo) pin (xmOf xms)) (c : He.SaysD fa fn K) (TB : ∀ e ∈ clo.tf.map (He.cT K), LamX.TabB base mg e.1 e.2) (g80 : GOk P w mg base (txOf K pin [] clo) 85 (Γ0.take 80)) : GOk P w mg base (txOf K pin [] clo) 105 (Γ0.take 100) := by
  obtain ⟨fd80, F80⟩ := c.def_ 27 rfl
  have g81 : GOk P w mg base (txOf K pin [] clo) 86 (Γ0.take 81) := g80.snoc rfl (cal_D (x := "compared") (st := st_compared) (mls := []) Pk g80 F80 sc_compared tr_compared (fun _ _ _ _ _ _ us hl => match us, hl with | [_, _, _], _ => rfl) (fun l M Q E h => by first | (unfold φ_compared at h; split at h <;> first | rfl | exact False.elim h) | (rcases l with _ | ⟨_, _ | ⟨_, _ | ⟨_, _ | ⟨_, l⟩⟩⟩⟩ <;> first | rfl | exact False.elim h)) (fun ds M Q E h => b_compared rfl h))
  obtain ⟨fd81, F81⟩ := c.def_ 35 rfl
  have g82 : GOk P w mg base (txOf K pin [] clo) 87 (Γ0.take 82) := g81.snoc rfl (cal_D (x := "ends") (st := st_ends) (mls := []) Pk g81 F81 sc_ends tr_ends (fun _ _ _ _ _ _ us hl => match us, hl with | [_], _ => rfl) (fun l M Q E h => by first | (unfold φ_ends at h; split at h <;> first | rfl | exact False.elim h) | (rcases l with _ | ⟨_, _ | ⟨_, l⟩⟩ <;> first | rfl | exact False.elim h)) (fun ds M Q E h => b_ends rfl rfl h))
  obtain ⟨fd82, F82⟩ := c.def_ 36 rfl
  have g83 : GOk P w mg base (txOf K pin [] clo) 88 (Γ0.take 83) := g82.snoc rfl (cal_D (x := "sum_range") (st := st_sum_range) (mls := []) Pk g82 F82 sc_sum_range tr_sum_range (fun _ _ _ _ _ _ us hl => match us, hl with | [_, _], _ => rfl) (fun l M Q E h => by first | (unfold φ_sum_range at h; split at h <;> first | rfl | exact False.elim h) | (rcases l with _ | ⟨_, _ | ⟨_, _ | ⟨_, l⟩⟩⟩ <;> first | rfl | exact False.elim h)) (fun ds M Q E h => b_sum_range rfl h))
  obtain ⟨fd83, F83⟩ := c.def_ 37 rfl
  have g84 : GOk P w mg base (txOf K pin [] clo) 89 (Γ0.take 84) := g83.snoc rfl (cal_D (x := "turned_range") (st := st_turned_range) (mls := []) Pk g83 F83 sc_turned_range tr_turned_range (fun _ _ _ _ _ _ us hl => match us, hl with | [_], _ => rfl) (fun l M Q E h => by first | (unfold φ_turned_range at h; split at h <;> first | rfl | exact False.elim h) | (rcases l with _ | ⟨_, _ | ⟨_, l⟩⟩ <;> first | rfl | exact False.elim h)) (fun ds M Q E h => b_turned_range h))
  obtain ⟨fd84, F84⟩ := c.def_ 38 rfl
  have g85 : GOk P w mg base (txOf K pin [] clo) 90 (Γ0.take 85) := g84.snoc rfl (cal_D (x := "product_range") (st := st_product_range) (mls := []) Pk g84 F84 sc_product_range tr_product_range (fun _ _ _ _ _ _ us hl => match us, hl with | [_, _], _ => rfl) (fun l M Q E h => by first | (unfold φ_product_range at h; split at h <;> first | rfl | exact False.elim h) | (rcases l with _ | ⟨_, _ | ⟨_, _ | ⟨_, l⟩⟩⟩ <;> first | rfl | exact False.elim h)) (fun ds M Q E h => b_product_range rfl rfl h))
  obtain ⟨fd85, F85⟩ := c.def_ 39 rfl
  have g86 : GOk P w mg base (txOf K pin [] clo) 91 (Γ0.take 86) := g85.snoc rfl (cal_D (x := "has_nought") (st := st_has_nought) (mls := []) Pk g85 F85 sc_has_nought tr_has_nought (fun _ _ _ _ _ _ us hl => match us, hl with | [_], _ => rfl) (fun l M Q E h => by first | (unfold φ_has_nought at h; split at h <;> first | rfl | exact False.elim h) | (rcases l with _ | ⟨_, _ | ⟨_, l⟩⟩ <;> first | rfl | exact False.elim h)) (fun ds M Q E h => b_has_nought h))
  obtain ⟨fd86, F86⟩ := c.def_ 40 rfl
  have g87 : GOk P w mg base (txOf K pin [] clo) 92 (Γ0.take 87) := g86.snoc rfl (cal_D (x := "quotient_range") (st := st_quotient_range) (mls := []) Pk g86 F86 sc_quotient_range tr_quotient_range (fun _ _ _ _ _ _ us hl => match us, hl with | [_, _], _ => rfl) (fun l M Q E h => by first | (unfold φ_quotient_range at h; split at h <;> first | rfl | exact False.elim h) | (rcases l with _ | ⟨_, _ | ⟨_, _ | ⟨_, l⟩⟩⟩ <;> first | rfl | exact False.elim h)) (fun ds M Q E h => b_quotient_range rfl rfl rfl h))
  obtain ⟨fd87, F87⟩ := c.def_ 41 rfl
  have g88 : GOk P w mg base (txOf K pin [] clo) 93 (Γ0.take 88) := g87.snoc rfl (cal_D (x := "is_interval") (st := st_is_interval) (mls := []) Pk g87 F87 sc_is_interval tr_is_interval (fun _ _ _ _ _ _ us hl => match us, hl with | [_, _], _ => rfl) (fun l M Q E h => by first | (unfold φ_is_interval at h; split at h <;> first | rfl | exact False.elim h) | (rcases l with _ | ⟨_, _ | ⟨_, _ | ⟨_, l⟩⟩⟩ <;> first | rfl | exact False.elim h)) (fun ds M Q E h => b_is_interval rfl rfl rfl h))
  obtain ⟨fd88, F88⟩ := c.def_ 42 rfl
  have g89 : GOk P w mg base (txOf K pin [] clo) 94 (Γ0.take 89) := g88.snoc rfl (cal_D (x := "look_at_interval") (st := st_look_at_interval) (mls := []) Pk g88 F88 sc_look_at_interval tr_look_at_interval (fun _ _ _ _ _ _ us hl => match us, hl with | [_, _], _ => rfl) (fun l M Q E h => by first | (unfold φ_look_at_interval at h; split at h <;> first | rfl | exact False.elim h) | (rcases l with _ | ⟨_, _ | ⟨_, _ | ⟨_, l⟩⟩⟩ <;> first | rfl | exact False.elim h)) (fun ds M Q E h => b_look_at_interval rfl h))
  obtain ⟨fd89, F89⟩ := c.def_ 43 rfl
  have g90 : GOk P w mg base (txOf K pin [] clo) 95 (Γ0.take 90) := g89.snoc rfl (cal_D (x := "whole_line") (st := st_whole_line) (mls := []) Pk g89 F89 sc_whole_line tr_whole_line (fun _ _ _ _ _ _ us hl => match us, hl with | [], _ => rfl) (fun l M Q E h => by first | (unfold φ_whole_line at h; split at h <;> first | rfl | exact False.elim h) | (rcases l with _ | ⟨_, l⟩ <;> first | rfl | exact False.elim h)) (fun ds M Q E h => b_whole_line h))
  obtain ⟨fd90, F90⟩ := c.def_ 44 rfl
  have g91 : GOk P w mg base (txOf K pin [] clo) 96 (Γ0.take 91) := g90.snoc rfl (cal_D (x := "around") (st := st_around) (mls := []) Pk g90 F90 sc_around tr_around (fun _ _ _ _ _ _ us hl => match us, hl with | [_, _, _], _ => rfl) (fun l M Q E h => by first | (unfold φ_around at h; split at h <;> first | rfl | exact False.elim h) | (rcases l with _ | ⟨_, _ | ⟨_, _ | ⟨_, _ | ⟨_, l⟩⟩⟩⟩ <;> first | rfl | exact False.elim h)) (fun ds M Q E h => b_around rfl rfl h))
  obtain ⟨fd91, F91⟩ := c.def_ 45 rfl
  have g92 : GOk P w mg base (txOf K pin [] clo) 97 (Γ0.take 92) := g91.snoc rfl (cal_D (x := "has") (st := st_has) (mls := []) Pk g91 F91 sc_has tr_has (fun _ _ _ _ _ _ us hl => match us, hl with | [_, _, _], _ => rfl) (fun l M Q E h => by first | (unfold φ_has at h; split at h <;> first | rfl | exact False.elim h) | (rcases l with _ | ⟨_, _ | ⟨_, _ | ⟨_, _ | ⟨_, l⟩⟩⟩⟩ <;> first | rfl | exact False.elim h)) (fun ds M Q E h => b_has rfl rfl rfl rfl rfl h))
  obtain ⟨fd92, F92⟩ := c.def_ 46 rfl
  have g93 : GOk P w mg base (txOf K pin [] clo) 98 (Γ0.take 93) := g92.snoc rfl (cal_D (x := "range_in") (st := st_range_in) (mls := []) Pk g92 F92 sc_range_in tr_range_in (fun _ _ _ _ _ _ us hl => match us, hl with | [_, _], _ => rfl) (fun l M Q E h => by first | (unfold φ_range_in at h; split at h <;> first | rfl | exact False.elim h) | (rcases l with _ | ⟨_, _ | ⟨_, _ | ⟨_, l⟩⟩⟩ <;> first | rfl | exact False.elim h)) (fun ds M Q E h => b_range_in rfl rfl h))
  obtain ⟨fd93, F93⟩ := c.def_ 47 rfl
  have g94 : GOk P w mg base (txOf K pin [] clo) 99 (Γ0.take 94) := g93.snoc rfl (cal_D (x := "met") (st := st_met) (mls := []) Pk g93 F93 sc_met tr_met (fun _ _ _ _ _ _ us hl => match us, hl with | [_, _, _], _ => rfl) (fun l M Q E h => by first | (unfold φ_met at h; split at h <;> first | rfl | exact False.elim h) | (rcases l with _ | ⟨_, _ | ⟨_, _ | ⟨_, _ | ⟨_, l⟩⟩⟩⟩ <;> first | rfl | exact False.elim h)) (fun ds M Q E h => b_met rfl rfl h))
  obtain ⟨fd94, F94⟩ := c.def_ 48 rfl
  have g95 : GOk P w mg base (txOf K pin [] clo) 100 (Γ0.take 95) := g94.snoc rfl (cal_D (x := "hull") (st := st_hull) (mls := []) Pk g94 F94 sc_hull tr_hull (fun _ _ _ _ _ _ us hl => match us, hl with | [_, _, _], _ => rfl) (fun l M Q E h => by first | (unfold φ_hull at h; split at h <;> first | rfl | exact False.elim h) | (rcases l with _ | ⟨_, _ | ⟨_, _ | ⟨_, _ | ⟨_, l⟩⟩⟩⟩ <;> first | rfl | exact False.elim h)) (fun ds M Q E h => b_hull rfl rfl h))
  obtain ⟨fd95, F95⟩ := c.def_ 49 rfl
  have g96 : GOk P w mg base (txOf K pin [] clo) 101 (Γ0.take 96) := g95.snoc rfl (cal_D (x := "is_inside") (st := st_is_inside) (mls := []) Pk g95 F95 sc_is_inside tr_is_inside (fun _ _ _ _ _ _ us hl => match us, hl with | [_, _, _], _ => rfl) (fun l M Q E h => by first | (unfold φ_is_inside at h; split at h <;> first | rfl | exact False.elim h) | (rcases l with _ | ⟨_, _ | ⟨_, _ | ⟨_, _ | ⟨_, l⟩⟩⟩⟩ <;> first | rfl | exact False.elim h)) (fun ds M Q E h => b_is_inside rfl rfl h))
  obtain ⟨fd96, F96⟩ := c.def_ 51 rfl
  have g97 : GOk P w mg base (txOf K pin [] clo) 102 (Γ0.take 97) := g96.snoc rfl (cal_D (x := "ranged") (st := st_ranged) (mls := []) Pk g96 F96 sc_ranged tr_ranged (fun _ _ _ _ _ _ us hl => match us, hl with | [_, _, _], _ => rfl) (fun l M Q E h => by first | (unfold φ_ranged at h; split at h <;> first | rfl | exact False.elim h) | (rcases l with _ | ⟨_, _ | ⟨_, _ | ⟨_, _ | ⟨_, l⟩⟩⟩⟩ <;> first | rfl | exact False.elim h)) (fun ds M Q E h => b_ranged rfl rfl rfl rfl h))
  obtain ⟨fd97, F97⟩ := c.def_ 50 rfl
  have g98 : GOk P w mg base (txOf K pin [] clo) 103 (Γ0.take 98) := g97.snoc rfl (cal_D (x := "made") (st := st_made) (mls := []) Pk g97 F97 sc_made tr_made (fun _ _ _ _ _ _ us hl => match us, hl with | [_, _, _, _], _ => rfl) (fun l M Q E h => by first | (unfold φ_made at h; split at h <;> first | rfl | exact False.elim h) | (rcases l with _ | ⟨_, _ | ⟨_, _ | ⟨_, _ | ⟨_, _ | ⟨_, l⟩⟩⟩⟩⟩ <;> first | rfl | exact False.elim h)) (fun ds M Q E h => b_made rfl rfl rfl rfl rfl h))
  obtain ⟨fd98, F98⟩ := c.def_ 64 rfl
  have g99 : GOk P w mg base (txOf K pin [] clo) 104 (Γ0.take 99) := g98.snoc rfl (cal_D (x := "_law_key") (st := st_law_key) (mls := []) Pk g98 F98 sc_law_key tr_law_key (fun _ _ _ _ _ _ us hl => match us, hl with | [_, _], _ => rfl) (fun l M Q E h => by first | (unfold φ_law_key at h; split at h <;> first | rfl | exact False.elim h) | (rcases l with _ | ⟨_, _ | ⟨_, _ | ⟨_, l⟩⟩⟩ <;> first | rfl | exact False.elim h)) (fun ds M Q E h => b_law_key rfl h))
  obtain ⟨fd99, F99⟩ := c.def_ 65 rfl
  have g100 : GOk P w mg base (txOf K pin [] clo) 105 (Γ0.take 100) := g99.snoc rfl (cal_D (x := "_law_le") (st := st_law_le) (mls := []) Pk g99 F99 sc_law_le tr_law_le (fun _ _ _ _ _ _ us hl => match us, hl with | [_, _, _], _ => rfl) (fun l M Q E h => by first | (unfold φ_law_le at h; split at h <;> first | rfl | exact False.elim h) | (rcases l with _ | ⟨_, _ | ⟨_, _ | ⟨_, _ | ⟨_, l⟩⟩⟩⟩ <;> first | rfl | exact False.elim h)) (fun ds M Q E h => b_law_le rfl h))
  exact g100
theorem calls5 (Pk : Pok mg (txOf K pin [] clo) pin (xmOf xms)) (c : He.SaysD fa fn K) (TB : ∀ e ∈ clo.tf.map (He.cT K), LamX.TabB base mg e.1 e.2) (g100 : GOk P w mg base (txOf K pin [] clo) 105 (Γ0.take 100)) : GOk P w mg base (txOf K pin [] clo) 111 (Γ0.take 106) := by
  obtain ⟨fd100, F100⟩ := c.def_ 66 rfl
  have g101 : GOk P w mg base (txOf K pin [] clo) 106 (Γ0.take 101) := g100.snoc rfl (cal_D (x := "_law_interval") (st := st_law_interval) (mls := []) Pk g100 F100 sc_law_interval tr_law_interval (fun _ _ _ _ _ _ us hl => match us, hl with | [_, _], _ => rfl) (fun l M Q E h => by first | (unfold φ_law_interval at h; split at h <;> first | rfl | exact False.elim h) | (rcases l with _ | ⟨_, _ | ⟨_, _ | ⟨_, l⟩⟩⟩ <;> first | rfl | exact False.elim h)) (fun ds M Q E h => b_law_interval rfl rfl rfl rfl h))
  obtain ⟨fd101, F101⟩ := c.def_ 67 rfl
  have g102 : GOk P w mg base (txOf K pin [] clo) 107 (Γ0.take 102) := g101.snoc rfl (cal_D (x := "_law_ends") (st := st_law_ends) (mls := []) Pk g101 F101 sc_law_ends tr_law_ends (fun _ _ _ _ _ _ us hl => match us, hl with | [_, _], _ => rfl) (fun l M Q E h => by first | (unfold φ_law_ends at h; split at h <;> first | rfl | exact False.elim h) | (rcases l with _ | ⟨_, _ | ⟨_, _ | ⟨_, l⟩⟩⟩ <;> first | rfl | exact False.elim h)) (fun ds M Q E h => b_law_ends rfl h))
  obtain ⟨fd102, F102⟩ := c.def_ 68 rfl
  have g103 : GOk P w mg base (txOf K pin [] clo) 108 (Γ0.take 103) := g102.snoc rfl (cal_D (x := "_law_around") (st := st_law_around) (mls := []) Pk g102 F102 sc_law_around tr_law_around (fun _ _ _ _ _ _ us hl => match us, hl with | [_, _], _ => rfl) (fun l M Q E h => by first | (unfold φ_law_around at h; split at h <;> first | rfl | exact False.elim h) | (rcases l with _ | ⟨_, _ | ⟨_, _ | ⟨_, l⟩⟩⟩ <;> first | rfl | exact False.elim h)) (fun ds M Q E h => b_law_around rfl h))
  obtain ⟨fd103, F103⟩ := c.def_ 69 rfl
  have g104 : GOk P w mg base (txOf K pin [] clo) 109 (Γ0.take 104) := g103.snoc rfl (cal_D (x := "_law_made") (st := st_law_made) (mls := [(523, 11)]) Pk g103 F103 sc_law_made tr_law_made (fun _ _ _ _ _ _ us hl => match us, hl with | [_, _, _, _], _ => rfl) (fun l M Q E h => by first | (unfold φ_law_made at h; split at h <;> first | rfl | exact False.elim h) | (rcases l with _ | ⟨_, _ | ⟨_, _ | ⟨_, _ | ⟨_, _ | ⟨_, l⟩⟩⟩⟩⟩ <;> first | rfl | exact False.elim h)) (fun ds M Q E h => b_law_made rfl rfl h))
  obtain ⟨fd104, F104⟩ := c.def_ 70 rfl
  have g105 : GOk P w mg base (txOf K pin [] clo) 110 (Γ0.take 105) := g104.snoc rfl (cal_D (x := "_law_has") (st := st_law_has) (mls := []) Pk g104 F104 sc_law_has tr_law_has (fun _ _ _ _ _ _ us hl => match us, hl with | [_, _, _, _], _ => rfl) (fun l M Q E h => by first | (unfold φ_law_has at h; split at h <;> first | rfl | exact False.elim h) | (rcases l with _ | ⟨_, _ | ⟨_, _ | ⟨_, _ | ⟨_, _ | ⟨_, l⟩⟩⟩⟩⟩ <;> first | rfl | exact False.elim h)) (fun ds M Q E h => b_law_has rfl h))
  obtain ⟨fd105, F105⟩ := c.def_ 71 rfl
  have g106 : GOk P w mg base (txOf K pin [] clo) 111 (Γ0.take 106) := g105.snoc rfl (cal_D (x := "_law_alike") (st := st_law_alike) (mls := []) Pk g105 F105 sc_law_alike tr_law_alike (fun _ _ _ _ _ _ us hl => match us, hl with | [_, _, _], _ => rfl) (fun l M Q E h => by first | (unfold φ_law_alike at h; split at h <;> first | rfl | exact False.elim h) | (rcases l with _ | ⟨_, _ | ⟨_, _ | ⟨_, _ | ⟨_, l⟩⟩⟩⟩ <;> first | rfl | exact False.elim h)) (fun ds M Q E h => b_law_alike rfl h))
  exact g106
theorem calls (Pk : Pok mg (txOf K pin [] clo) pin (xmOf xms)) (c : He.SaysD fa fn K) (TB : ∀ e ∈ clo.tf.map (He.cT K), LamX.TabB base mg e.1 e.2) : GOk P w mg base (txOf K pin [] clo) 111 Γ0 := calls5 Pk c TB (calls4 Pk c TB (calls3 Pk c TB (calls2 Pk c TB (calls1 Pk c TB (calls0 Pk c TB)))))
end
theorem names_ok (x : Str) (n : Nat) (h : (x, n) ∈ pin.fns) (h98 : n ≠ 98) : x ∈ nms := by
  have e : (pin.fns.all fun e => decide (e.2 = 98) || decide (e.1 ∈ nms)) = true := by decide +kernel
  have := List.all_eq_true.mp e _ h
  simpa [h98] using this
theorem facts {w : World} {K : PySem.W.Frag} {h : Heap} {mg : Str → Option Value} {f : Addr} (X : K.In h) (G : h.Ns mainGlobals mg) (hfa : mg ("law" : Str) = some (.ref f)) (c : He.SaysX fa fn [] clo.tf ex w h K) :
    LamX.LawAtS PySem.Challenge.rw_roundonce_k68_whole_intervals_of_values w K CXE 112 63 "script" mg f h := by
  have cd : He.SaysD fa fn K := c.t.d
  obtain ⟨fd, F⟩ := cd.def_ 72 (d := dd "law" 99) rfl
  have e := hfa.symm.trans (He.glo_ok X G (fact_mem cd (show He.Fa.glo "law" ∈ fa by simp [fa, faOf, nms])))
  cases e
  have b := FunD.bindsA (ps := ["script"]) F fun _ _ _ _ _ _ us hl => match us, hl with | [_], _ => rfl
  have Pk : Pok mg (txOf K pin [] clo) pin (xmOf xms) := pok_of X G cd names_ok c.more
  refine ⟨fd, clo.tf.map (He.cT K), liftSp (txOf K pin [] clo) 1 DL.φ_law, ?_, ?_, ?_, fun s v => b s [v] rfl, fun H a ns hl _ ho hS => law_sp hl (tabs_new ho) hS, fun base _ _ TB => fn_any (fn_D (T := (txOf K pin [] clo)) (mls := [(588, 12), (599, 20)]) (x := "law") (params := defArgs st_law_k68) (body := defBody st_law_k68) (scope := defScope st_law_k68) F sc_law_k68 Pk (calls Pk cd TB) tr_law_k68 fun ds M Q E q _ => b_law_k68x ?_ q)⟩
  · intro p hp
    obtain ⟨d, hd, rfl⟩ := List.mem_map.mp hp
    exact c.empty d hd
  · intro p hp
    obtain ⟨d, hd, rfl⟩ := List.mem_map.mp hp
    exact c.out d hd
  · intro p hp
    obtain ⟨d, hd, rfl⟩ := List.mem_map.mp hp
    exact PySem.W.codeHd_of_K X (c.hd d hd)
  · exact ⟨rfl, rfl, rfl, rfl, rfl, rfl, rfl, rfl, rfl, rfl, rfl, rfl, rfl, rfl, rfl, rfl, rfl, rfl, rfl, rfl, rfl, rfl, rfl⟩
end U
open PySem PySem.W PySem.Calls PyProof.Rows
theorem PySem.Challenge.cw_roundonce_k68_whole_intervals_of_values_holds : PySem.Challenge.rw_roundonce_k68_whole_intervals_of_values.Holds := by
  w_on; o_law
  refine HandSHeadRun.head_any (r := OpenLaw.row PySem.Challenge.rw_roundonce_k68_whole_intervals_of_values) (q := view (OpenLaw.row PySem.Challenge.rw_roundonce_k68_whole_intervals_of_values).prog [99]) (H := U.hk) (ob := U.ob) (M := 12000) (loose := U.loose) (d := HandSHeadRun.topDef (OpenLaw.row PySem.Challenge.rw_roundonce_k68_whole_intervals_of_values).prog 99) (kwd := []) U.ob_eq
    (by kernel_rfl) (fun s => by kernel_rfl) U.run (by kernel_rfl) (by kernel_rfl) (by kernel_rfl) (by rfl) (by first | assumption | decide +kernel) (by decide +kernel) ⟨rfl, rfl, rfl, rfl, rfl, by decide +kernel⟩ ?hw ?hc
  case hw => w_witness2
  case hc =>
    refine DL.walk_X (l := PySem.Challenge.rw_roundonce_k68_whole_intervals_of_values) (n := 63) (k := 112) (x := "script") rfl (by decide) (by kernel_rfl) ⟨rfl, by decide, by decide⟩ ?F
    intro w mg fa h Y G hmg0
    obtain ⟨K, KX, c⟩ := Y
    have hmg : mg ("law" : PySem.Str) = some (.ref fa) := by
      have e : (HandSHeadRun.topDef (OpenLaw.row PySem.Challenge.rw_roundonce_k68_whole_intervals_of_values).prog 99).name = ("law" : PySem.Str) := by kernel_rfl
      rw [← e]
      exact hmg0
    exact ⟨K, KX, U.facts KX G hmg c⟩
end
