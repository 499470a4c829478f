import PyProof.Rows.All
import Wide.All
import OpenK.AllK
import Wide.FinOn
import HandS.ForMost
import HandS.ForExc
import HandS.EndTab
import HandS.Walk
import HandS.Zip
import HandS.TupAny
import HandS.TupLe
import HandS.TupMul
import HandS.Conv
import HandS.Deep
import HandS.IsInst
import HandS.ExcIs
import HandS.TryMany
import HandS.Style
import HandS.Flow
import HandS.SortInts
import HandS.DictComp
import HandS.Wide
import HandS.Hot
import HandS.ExcCtx
import HandS.CallSlots
import HandS.RaiseMore
import KE.DataEq
import KE.DataCmp
import KE.DataMinMax
import KE.SortData
import KE.DataFind
import KE.DataAny
import HandS.Lambda
import PySem.Challenge.RW_strongroom_k46_whole_rows_of_copies_betw
set_option Elab.async false
set_option linter.all false
set_option maxRecDepth 100000
set_option maxHeartbeats 2000000
namespace G
set_option autoImplicit false
open PySem PySem.Spec PyProof.Rows L2
abbrev St := L2.St

/-! ### plain values -/
inductive Va where
  | non | bl (b : Bool) | int (i : Int) | str (s : Str) | tup (ds : List Va) | lst (ds : List Va) | dic (t : Bool) (ks vs : List Va) | fn (x : Str) | cup | scr (ds : List Int)
abbrev Cv := Option (Int × Int)
structure Exn where
  nm : Str
  fs : List (Str × Int) := []
inductive Re (α : Type) where
  | ok (a : α) (c : Cv) | exn (e : Exn) (c : Cv) | stk
/-- what a raw slot holds: the lambda that a def got, the exception that a suite holds -/
inductive Rk where
  | lam | exc (e : Exn)
inductive Sl where
  | un | val (d : Va) | own (d : Va) | bor (d : Va) | raw (k : Rk)
abbrev Ev := List Sl
inductive Rs where
  | nx (env : Ev) (c : Cv) | bk (env : Ev) (c : Cv) | ct (env : Ev) (c : Cv) | rt (d : Va) (c : Cv) | exn (e : Exn) (env : Ev) (c : Cv) | stk
abbrev SE := Ev → Cv → Re Va
abbrev ST := Ev → Cv → Re Bool
abbrev SA := Ev → Cv → Re (List Va)
abbrev SS := Ev → Cv → Rs

/-! ### what a value of the model stands for -/
def kVa : Key → Va
  | .inl i => .int i
  | .inr s => .str s
mutual
inductive Rep (K : PySem.W.Frag) (mg : Str → Option Value) (c : Option Addr) (H : Hp) : V → Va → Prop
  | non : Rep K mg c H .non .non
  | bl (b : Bool) : Rep K mg c H (.bl b) (.bl b)
  | int (i : Int) : Rep K mg c H (.int i) (.int i)
  | str (s : Str) : Rep K mg c H (.str s) (.str s)
  | tup {a : Addr} {xs : List V} {ds : List Va} : H a = some (.tup xs) → RepL K mg c H xs ds → Rep K mg c H (.ref a) (.tup ds)
  | lst {a : Addr} {xs : List V} {ds : List Va} : H a = some (.lst xs) → RepL K mg c H xs ds → Rep K mg c H (.ref a) (.lst ds)
  | scr {a : Addr} {ns : List Int} : SqL K H a (ns.map V.int) → Rep K mg c H (.ref a) (.scr ns)
  | dic {a : Addr} {kvs : List (Key × V)} {ks vs : List Va} : Rd H a (.dK kvs) → ks = kvs.map (fun p => kVa p.1) → RepL K mg c H (kvs.map (·.2)) vs → Rep K mg c H (.ref a) (.dic false ks vs)
  | dicT {a : Addr} {kvs : List (List Key × V)} {ks vs : List Va} : Rd H a (.dT kvs) → ks = kvs.map (fun p => Va.tup (p.1.map kVa)) → RepL K mg c H (kvs.map (·.2)) vs → Rep K mg c H (.ref a) (.dic true ks vs)
  | fn {a : Addr} {x : Str} : mg x = some (.ref a) → Rep K mg c H (.ref a) (.fn x)
  | cup {a : Addr} : c = some a → Rep K mg c H (.ref a) .cup
inductive RepL (K : PySem.W.Frag) (mg : Str → Option Value) (c : Option Addr) (H : Hp) : List V → List Va → Prop
  | nil : RepL K mg c H [] []
  | cons {x : V} {d : Va} {xs : List V} {ds : List Va} : Rep K mg c H x d → RepL K mg c H xs ds → RepL K mg c H (x :: xs) (d :: ds)
end

def isD : HO → Prop
  | .lst _ => True
  | .tup _ => True
  | .dK _ => True
  | .dT _ => True
  | _ => False
/-- what is data in H is so in H' -/
def Le (H H' : Hp) : Prop := (∀ b u, isD u → Rd H b u → Rd H' b u) ∧ ∀ b u, isD u → H b = some u → H' b = some u
theorem Le.refl (H : Hp) : Le H H := ⟨fun _ _ _ h => h, fun _ _ _ h => h⟩
theorem Le.trans {H H1 H2 : Hp} (a : Le H H1) (b : Le H1 H2) : Le H H2 := ⟨fun x u d h => b.1 x u d (a.1 x u d h), fun x u d h => b.2 x u d (a.2 x u d h)⟩
theorem Le.sqL {K : PySem.W.Frag} {H H' : Hp} (l : Le H H') {a : Addr} {xs : List V} (h : SqL K H a xs) : SqL K H' a xs := by
  rcases h with h | h
  · exact .inl (l.1 _ _ trivial h)
  · exact .inr h
theorem Le.sqT {K : PySem.W.Frag} {H H' : Hp} (l : Le H H') {a : Addr} {xs : List V} (h : SqT K H a xs) : SqT K H' a xs := by
  rcases h with h | h
  · exact .inl (l.1 _ _ trivial h)
  · exact .inr h
section
variable {K : PySem.W.Frag} {mg : Str → Option Value} {c : Option Addr} {H H' : Hp}
mutual
theorem Rep.mono (l : Le H H') : ∀ {x : V} {d : Va}, Rep K mg c H x d → Rep K mg c H' x d
  | _, _, .non => .non
  | _, _, .bl b => .bl b
  | _, _, .int i => .int i
  | _, _, .str s => .str s
  | _, _, .tup h r => .tup (l.2 _ _ trivial h) (RepL.mono l r)
  | _, _, .lst h r => .lst (l.2 _ _ trivial h) (RepL.mono l r)
  | _, _, .scr h => .scr (l.sqL h)
  | _, _, .dic h e r => .dic (l.1 _ _ trivial h) e (RepL.mono l r)
  | _, _, .dicT h e r => .dicT (l.1 _ _ trivial h) e (RepL.mono l r)
  | _, _, .fn e => .fn e
  | _, _, .cup e => .cup e
theorem RepL.mono (l : Le H H') : ∀ {xs : List V} {ds : List Va}, RepL K mg c H xs ds → RepL K mg c H' xs ds
  | _, _, .nil => .nil
  | _, _, .cons a b => .cons (Rep.mono l a) (RepL.mono l b)
end
/-- a value without the cup stands for the same under any cup -/
theorem RepL.length : ∀ {xs : List V} {ds : List Va}, RepL K mg c H xs ds → xs.length = ds.length
  | _, _, .nil => rfl
  | _, _, .cons _ b => by simp [RepL.length b]
theorem RepL.get : ∀ {xs : List V} {ds : List Va} {i : Nat} {x : V}, RepL K mg c H xs ds → xs[i]? = some x → ∃ d, ds[i]? = some d ∧ Rep K mg c H x d
  | _, _, _, _, .nil, e => by simp at e
  | _, _, 0, _, .cons r _, e => by simp at e; subst e; exact ⟨_, rfl, r⟩
  | _, _, i + 1, x, .cons _ t, e => by
    obtain ⟨d, h1, h2⟩ := RepL.get (i := i) (x := x) t (by simpa using e)
    exact ⟨d, by simpa using h1, h2⟩
theorem RepL.get' : ∀ {xs : List V} {ds : List Va} {i : Nat} {d : Va}, RepL K mg c H xs ds → ds[i]? = some d → ∃ x, xs[i]? = some x ∧ Rep K mg c H x d
  | _, _, _, _, .nil, e => by simp at e
  | _, _, 0, _, .cons r _, e => by simp at e; subst e; exact ⟨_, rfl, r⟩
  | _, _, i + 1, x, .cons _ t, e => by
    obtain ⟨d, h1, h2⟩ := RepL.get' (i := i) (d := x) t (by simpa using e)
    exact ⟨d, by simpa using h1, h2⟩
theorem RepL.append : ∀ {xs ys : List V} {ds es : List Va}, RepL K mg c H xs ds → RepL K mg c H ys es → RepL K mg c H (xs ++ ys) (ds ++ es)
  | _, _, _, _, .nil, s => s
  | _, _, _, _, .cons r t, s => .cons r (RepL.append t s)
theorem RepL.take : ∀ {xs : List V} {ds : List Va} (n : Nat), RepL K mg c H xs ds → RepL K mg c H (xs.take n) (ds.take n)
  | _, _, 0, _ => by simp; exact .nil
  | _, _, _ + 1, .nil => .nil
  | _, _, n + 1, .cons r t => .cons r (RepL.take n t)
theorem RepL.drop : ∀ {xs : List V} {ds : List Va} (n : Nat), RepL K mg c H xs ds → RepL K mg c H (xs.drop n) (ds.drop n)
  | _, _, 0, r => r
  | _, _, _ + 1, .nil => .nil
  | _, _, n + 1, .cons _ t => RepL.drop n t
theorem RepL.set {x : V} {d : Va} (r : Rep K mg c H x d) : ∀ {xs : List V} {ds : List Va} (i : Nat), RepL K mg c H xs ds → RepL K mg c H (xs.set i x) (ds.set i d)
  | _, _, _, .nil => .nil
  | _, _, 0, .cons _ t => .cons r t
  | _, _, i + 1, .cons q t => .cons q (RepL.set r i t)
theorem RepL.eraseIdx : ∀ {xs : List V} {ds : List Va} (i : Nat), RepL K mg c H xs ds → RepL K mg c H (xs.eraseIdx i) (ds.eraseIdx i)
  | _, _, _, .nil => .nil
  | _, _, 0, .cons _ t => t
  | _, _, i + 1, .cons q t => .cons q (RepL.eraseIdx i t)
theorem RepL.reverse {xs : List V} {ds : List Va} (r : RepL K mg c H xs ds) : RepL K mg c H xs.reverse ds.reverse := by
  induction xs generalizing ds with
  | nil => cases r; exact .nil
  | cons x xs ih =>
    cases r with
    | cons a b => rw [List.reverse_cons, List.reverse_cons]; exact (ih b).append (.cons a .nil)
theorem RepL.ints : ∀ {ns : List Int} {xs : List V}, RepL K mg c H xs (ns.map Va.int) → xs = ns.map V.int
  | [], _, r => by cases r; rfl
  | n :: ns, _, r => by
    cases r with
    | cons a b => cases a; rw [RepL.ints b]; rfl
theorem RepL.ofInts : ∀ (ns : List Int), RepL K mg c H (ns.map V.int) (ns.map Va.int)
  | [] => .nil
  | n :: ns => .cons (.int n) (RepL.ofInts ns)
theorem RepL.bls : ∀ {bs : List Bool} {xs : List V}, RepL K mg c H xs (bs.map Va.bl) → xs = bs.map V.bl
  | [], _, r => by cases r; rfl
  | n :: ns, _, r => by
    cases r with
    | cons a b => cases a; rw [RepL.bls b]; rfl
theorem RepL.strs : ∀ {bs : List Str} {xs : List V}, RepL K mg c H xs (bs.map Va.str) → xs = bs.map V.str
  | [], _, r => by cases r; rfl
  | n :: ns, _, r => by
    cases r with
    | cons a b => cases a; rw [RepL.strs b]; rfl
end

/-! ### the heap without what may change -/
open Classical in
noncomputable def hid (H : Hp) (M : Addr → Prop) : Hp := fun b => if M b then none else H b
theorem hid_some {H : Hp} {M : Addr → Prop} {b : Addr} {o : HO} (h : hid H M b = some o) : ¬ M b ∧ H b = some o := by
  unfold hid at h
  split at h
  · cases h
  · exact ⟨‹_›, h⟩
theorem hid_of {H : Hp} {M : Addr → Prop} {b : Addr} {o : HO} (n : ¬ M b) (h : H b = some o) : hid H M b = some o := by
  unfold hid; rw [if_neg n]; exact h
theorem hid_rd {H : Hp} {M : Addr → Prop} {b : Addr} {u : HO} (h : Rd (hid H M) b u) : ¬ M b ∧ Rd H b u := by
  rcases h with h | ⟨o, h⟩
  · exact ⟨(hid_some h).1, .inl (hid_some h).2⟩
  · exact ⟨(hid_some h).1, .inr ⟨o, (hid_some h).2⟩⟩
theorem rd_hid {H : Hp} {M : Addr → Prop} {b : Addr} {u : HO} (n : ¬ M b) (h : Rd H b u) : Rd (hid H M) b u := by
  rcases h with h | ⟨o, h⟩
  · exact .inl (hid_of n h)
  · exact .inr ⟨o, hid_of n h⟩
theorem le_hid {H H' : Hp} {M M' : Addr → Prop} (k : ∀ b o, ¬ M b → H b = some o → (∀ ps, o ≠ .tbl ps) → H' b = some o) (m : ∀ b, M' b → M b ∨ H b = none) : Le (hid H M) (hid H' M') := by
  refine ⟨fun b u d h => ?_, fun b u d h => hid_of (fun z => (m b z).elim (hid_some h).1 fun q => by rw [(hid_some h).2] at q; cases q) (k b _ (hid_some h).1 (hid_some h).2 fun ps z => by subst z; exact d)⟩
  obtain ⟨n, h⟩ := hid_rd h
  have nm : ¬ M' b := fun z => by
    rcases m b z with z | z
    · exact n z
    · rcases h with h | ⟨o, h⟩ <;> rw [z] at h <;> cases h
  refine rd_hid nm ?_
  rcases h with h | ⟨o, h⟩
  · exact .inl (k b _ n h fun ps z => by subst z; exact d)
  · exact .inr ⟨o, k b _ n h fun ps z => by cases z⟩
theorem le_hid_of {H : Hp} {M : Addr → Prop} : Le (hid H M) H := ⟨fun b u d h => (hid_rd h).2, fun b u d h => (hid_some h).2⟩
theorem rd_some {H : Hp} {a : Addr} {u : HO} (h : Rd H a u) : ∃ o, H a = Option.some o := by
  rcases h with h | ⟨o, h⟩
  · exact ⟨_, h⟩
  · exact ⟨_, h⟩

/-! ### ghosts and states -/
/-- c: the cup's address; M: what others may change; H0: the heap at the entry -/
structure Gh where
  c : Option Addr
  M : Addr → Prop
  H0 : Hp
/-- the written part, the module's names, the tables of code objects -/
structure Gx where
  K : PySem.W.Frag
  mg : Str → Option Value
  T : List (Addr × Str)
  lf : Option Addr := none
  xa : Option (Addr × Exn) := none
  lb : Option Gh := none
def Gx.ra (Γ : Gx) : Rk → Addr → Prop
  | .lam, a => Γ.lf = some a
  | .exc e, a => Γ.xa = some (a, e)
/-- tables, the raw addresses -/
structure Gt where
  tb : List (Addr × Str)
  lf : Option Addr := none
  xa : Option (Addr × Exn) := none
  lb : Option Gh := none
/-- g is a ghost that began as g0 -/
structure LbOk (g0 g : Gh) : Prop where
  c : g.c = g0.c
  H0 : g.H0 = g0.H0
  sub : ∀ b, g0.M b → g.M b ∧ g0.H0 b ≠ none
  sup : ∀ b, g.M b → g0.M b ∨ g0.H0 b = none
abbrev RepA (Γ : Gx) (g : Gh) (H : Hp) : V → Va → Prop := Rep Γ.K Γ.mg g.c H
abbrev RepLA (Γ : Gx) (g : Gh) (H : Hp) : List V → List Va → Prop := RepL Γ.K Γ.mg g.c H
def Ow (σ : St) (env : Ev) (b : Addr) : Prop := ∃ (i : Nat) (d : Va), env[i]? = some (.own d) ∧ σ[i]? = some (some (.ref b))
def Mt (g : Gh) (σ : St) (env : Ev) (b : Addr) : Prop := g.M b ∨ Ow σ env b
def CupAt : Option Addr → Hp → Cv → Prop
  | none, _, none => True
  | some a, H, some (x, y) => H a = some (.lst [.int x, .int y])
  | _, _, _ => False
/-- the top of an own object -/
def Top (Γ : Gx) (g : Gh) (Hh H : Hp) (a : Addr) : Va → Prop
  | .lst ds => ∃ xs, H a = some (.lst xs) ∧ RepLA Γ g Hh xs ds
  | .dic false ks vs => ∃ kvs : List (Key × V), H a = some (.dK kvs) ∧ ks = kvs.map (fun p => kVa p.1) ∧ RepLA Γ g Hh (kvs.map (·.2)) vs
  | .dic true ks vs => ∃ kvs : List (List Key × V), H a = some (.dT kvs) ∧ ks = kvs.map (fun p => Va.tup (p.1.map kVa)) ∧ RepLA Γ g Hh (kvs.map (·.2)) vs
  | _ => False
/-! borrowed values: an object is read and not kept -/
def RepB (Γ : Gx) (g : Gh) (Hh H : Hp) (x : V) : Va → Prop
  | .lst ds => ∃ a xs, x = .ref a ∧ g.c ≠ some a ∧ H a = some (.lst xs) ∧ RepLA Γ g Hh xs ds
  | .dic false ks vs => ∃ a, x = .ref a ∧ g.c ≠ some a ∧ ∃ kvs : List (Key × V), Rd H a (.dK kvs) ∧ ks = kvs.map (fun p => kVa p.1) ∧ RepLA Γ g Hh (kvs.map (·.2)) vs
  | .dic true ks vs => ∃ a, x = .ref a ∧ g.c ≠ some a ∧ ∃ kvs : List (List Key × V), Rd H a (.dT kvs) ∧ ks = kvs.map (fun p => Va.tup (p.1.map kVa)) ∧ RepLA Γ g Hh (kvs.map (·.2)) vs
  | d => RepA Γ g Hh x d
theorem RepB.mono {Γ : Gx} {g : Gh} {Hh Hh' H H' : Hp} {x : V} {d : Va} (l : Le Hh Hh') (k : ∀ b o, H b = some o → (∀ ps, o ≠ .tbl ps) → g.c ≠ some b → H' b = some o) (r : RepB Γ g Hh H x d) : RepB Γ g Hh' H' x d := by
  cases d with
  | lst ds =>
    obtain ⟨a, xs, rfl, nc, h, q⟩ := r
    exact ⟨a, xs, rfl, nc, k a _ h (fun ps z => by cases z) nc, q.mono l⟩
  | dic t ks vs =>
    have key : ∀ {a : Addr}, g.c ≠ some a → ∀ u, isD u → Rd H a u → Rd H' a u := fun nc u di h => by
      rcases h with h | ⟨o, h⟩
      · exact .inl (k _ _ h (fun ps z => by subst z; exact di) nc)
      · exact .inr ⟨o, k _ _ h (fun ps z => by cases z) nc⟩
    cases t <;> (obtain ⟨a, rfl, nc, kvs, h1, h2, h3⟩ := r; exact ⟨a, rfl, nc, kvs, key nc _ trivial h1, h2, h3.mono l⟩)
  | _ => exact Rep.mono l r
section
variable {Γ : Gx} {g : Gh} {σ : St} {Hh Hh' H H' H1 H2 : Hp} {a : Addr} {d : Va} {env : Ev} {cv cv1 cv2 : Cv}
theorem Top.mono (h : Top Γ g Hh H a d) (l : Le Hh Hh') (e : ∀ o, H a = some o → H' a = some o) : Top Γ g Hh' H' a d := by
  cases d with
  | lst ds => obtain ⟨xs, h1, h2⟩ := h; exact ⟨xs, e _ h1, h2.mono l⟩
  | dic t ks vs => cases t <;> (obtain ⟨kvs, h1, h2, h3⟩ := h; exact ⟨kvs, e _ h1, h2, h3.mono l⟩)
  | _ => exact h.elim
theorem Top.some (h : Top Γ g Hh H a d) : ∃ o, H a = Option.some o ∧ isD o := by
  cases d with
  | lst ds => obtain ⟨xs, h1, h2⟩ := h; exact ⟨_, h1, trivial⟩
  | dic t ks vs => cases t <;> (obtain ⟨kvs, h1, h2, h3⟩ := h; exact ⟨_, h1, trivial⟩)
  | _ => exact h.elim
/-- an own object as a value, where nobody changes it any more -/
theorem Top.rep (h : Top Γ g Hh H a d) (l : Le Hh H') (e : ∀ o, H a = Option.some o → H' a = Option.some o) : RepA Γ g H' (.ref a) d := by
  cases d with
  | lst ds => obtain ⟨xs, h1, h2⟩ := h; exact .lst (e _ h1) (h2.mono l)
  | dic t ks vs =>
    cases t with
    | false => obtain ⟨kvs, h1, h2, h3⟩ := h; exact .dic (.inl (e _ h1)) h2 (h3.mono l)
    | true => obtain ⟨kvs, h1, h2, h3⟩ := h; exact .dicT (.inl (e _ h1)) h2 (h3.mono l)
  | _ => exact h.elim

structure SR (Γ : Gx) (g : Gh) (σ : St) (H : Hp) (env : Ev) (cv : Cv) : Prop where
  len : σ.length = env.length
  val : ∀ (i : Nat) (d : Va), env[i]? = some (.val d) → ∃ x, σ[i]? = some (some x) ∧ RepA Γ g (hid H (Mt g σ env)) x d
  own : ∀ (i : Nat) (d : Va), env[i]? = some (.own d) → ∃ a, σ[i]? = some (some (.ref a)) ∧ ¬ g.M a ∧ g.H0 a = none ∧ Top Γ g (hid H (Mt g σ env)) H a d
  bor : ∀ (i : Nat) (d : Va), env[i]? = some (.bor d) → ∃ x, σ[i]? = some (some x) ∧ RepB Γ g (hid H (Mt g σ env)) g.H0 x d
  raw : ∀ (i : Nat) (k : Rk), env[i]? = some (.raw k) → ∃ a, Γ.ra k a ∧ σ[i]? = some (some (.ref a))
  sep : ∀ (i j : Nat) (d e : Va) (a : Addr), env[i]? = some (.own d) → env[j]? = some (.own e) → σ[i]? = some (some (.ref a)) → σ[j]? = some (some (.ref a)) → i = j
  cst : CupAt g.c H cv
  cM : ∀ a, g.c = some a → g.M a
  mt : ∀ b, g.M b → ∃ o, H b = some o
  ent : ∀ b o, g.H0 b = some o → (∀ ps, o ≠ .tbl ps) → g.c ≠ some b → H b = some o
  there : ∀ b o, g.H0 b = some o → ∃ o', H b = some o'
  tabs : LamX.Tabs Γ.T H
  lb : ∀ g0, Γ.lb = some g0 → LbOk g0 g
theorem SR.mtH (S : SR Γ g σ H env cv) (b : Addr) (h : Mt g σ env b) : ∃ o, H b = some o := by
  rcases h with h | ⟨i, d, h1, h2⟩
  · exact S.mt b h
  · obtain ⟨a, e, _, _, t⟩ := S.own i d h1
    rw [h2] at e
    have e' : b = a := by cases e; rfl
    subst e'
    obtain ⟨o, e, _⟩ := t.some
    exact ⟨o, e⟩
theorem SR.newM (S : SR Γ g σ H env cv) {b : Addr} (h : H b = none) : ¬ Mt g σ env b := fun z => by
  obtain ⟨o, e⟩ := S.mtH b z
  rw [h] at e; cases e
theorem SR.new0 (S : SR Γ g σ H env cv) {b : Addr} (h : H b = none) : g.H0 b = none := by
  cases q : g.H0 b with
  | none => rfl
  | some o =>
    obtain ⟨o', e⟩ := S.there b o q
    rw [h] at e; cases e

/-- what an expression leaves -/
structure Po (Γ : Gx) (g : Gh) (H H' : Hp) (cv' : Cv) : Prop where
  keep : ∀ b o, H b = some o → (∀ ps, o ≠ .tbl ps) → g.c ≠ some b → H' b = some o
  there : ∀ b o, H b = some o → ∃ o', H' b = some o'
  cst : CupAt g.c H' cv'
  tabs : LamX.Tabs Γ.T H'
theorem Po.trans (a : Po Γ g H H1 cv1) (b : Po Γ g H1 H2 cv2) : Po Γ g H H2 cv2 :=
  ⟨fun x o e n m => b.keep x o (a.keep x o e n m) n m, fun x o e => by obtain ⟨o', e'⟩ := a.there x o e; exact b.there x o' e', b.cst, b.tabs⟩
theorem Po.refl (S : SR Γ g σ H env cv) : Po Γ g H H cv := ⟨fun _ _ e _ _ => e, fun _ o e => ⟨o, e⟩, S.cst, S.tabs⟩
theorem Po.le (S : SR Γ g σ H env cv) (p : Po Γ g H H1 cv1) : Le (hid H (Mt g σ env)) (hid H1 (Mt g σ env)) :=
  le_hid (fun b o n e t => p.keep b o e t fun z => n (.inl (S.cM b z))) fun b z => .inl z
/-- a new object -/
theorem Po.new {o : HO} {p : Addr} (S : SR Γ g σ H env cv) (n : H p = none) (no : ∀ ps, o ≠ .tbl ps) : Po Γ g H (upd H p o) cv where
  keep := fun b o e _ _ => by rw [upd_ne (ne_of_none e n)]; exact e
  there := fun b o e => ⟨o, by rw [upd_ne (ne_of_none e n)]; exact e⟩
  cst := by
    have h := S.cst
    obtain ⟨c, M, H0⟩ := g
    cases c with
    | none => cases cv <;> exact h
    | some a =>
      cases cv with
      | none => exact h
      | some xy =>
        have h : H a = some (.lst [.int xy.1, .int xy.2]) := h
        show upd H p o a = _
        rw [upd_ne (ne_of_none h n)]; exact h
  tabs := S.tabs.ext fun b u e => by rw [upd_ne (ne_of_none e n)]; exact e
theorem upd_new_keep {o : HO} {p : Addr} (n : H p = none) : ∀ b u, H b = some u → upd H p o b = some u := fun b u e => by rw [upd_ne (ne_of_none e n)]; exact e
/-- the state behind an expression -/
theorem SR.after (S : SR Γ g σ H env cv) (p : Po Γ g H H1 cv1) : SR Γ g σ H1 env cv1 where
  len := S.len
  val := fun i d h => by obtain ⟨x, e, r⟩ := S.val i d h; exact ⟨x, e, r.mono (p.le S)⟩
  own := fun i d h => by
    obtain ⟨a, e, n, z, t⟩ := S.own i d h
    refine ⟨a, e, n, z, t.mono (p.le S) fun o eo => ?_⟩
    obtain ⟨o', eo', di⟩ := t.some
    rw [eo'] at eo; cases eo
    exact p.keep a _ eo' (fun ps z => by subst z; exact di) fun q => n (S.cM a q)
  bor := fun i d h => by obtain ⟨x, e, r⟩ := S.bor i d h; exact ⟨x, e, r.mono (p.le S) fun _ _ e _ _ => e⟩
  raw := S.raw
  sep := S.sep
  cst := p.cst
  cM := S.cM
  mt := fun b h => by obtain ⟨o, e⟩ := S.mt b h; exact p.there b o e
  ent := fun b o e t n => p.keep b o (S.ent b o e t n) t n
  there := fun b o e => by
    obtain ⟨o1, e1⟩ := S.there b o e
    exact p.there b o1 e1
  tabs := p.tabs
  lb := S.lb
/-- more that others may change -/
def Gh.add (g : Gh) (A : Addr → Prop) : Gh := ⟨g.c, fun b => g.M b ∨ A b, g.H0⟩
theorem Gh.add_no (g : Gh) : g.add (fun _ => False) = g := by
  obtain ⟨c, M, H0⟩ := g
  unfold Gh.add
  congr
  funext b
  simp
theorem Po.add {A : Addr → Prop} (p : Po Γ g H H1 cv1) : Po Γ (g.add A) H H1 cv1 := ⟨p.keep, p.there, p.cst, p.tabs⟩
theorem Po.sub {A : Addr → Prop} (p : Po Γ (g.add A) H H1 cv1) : Po Γ g H H1 cv1 := ⟨p.keep, p.there, p.cst, p.tabs⟩
/-- the state behind an expression, new objects set aside -/
theorem SR.afterM {A : Addr → Prop} (S : SR Γ g σ H env cv) (p : Po Γ g H H1 cv1) (n : ∀ a, A a → H a = none) (s : ∀ a, A a → ∃ o, H1 a = Option.some o) : SR Γ (g.add A) σ H1 env cv1 := by
  have l : Le (hid H (Mt g σ env)) (hid H1 (Mt (g.add A) σ env)) := le_hid (fun b o nb e t => p.keep b o e t fun z => nb (.inl (S.cM b z))) fun b z => by
    rcases z with (z | z) | z
    · exact .inl (.inl z)
    · exact .inr (n b z)
    · exact .inl (.inr z)
  have S1 := S.after p
  refine ⟨S.len, fun i d h => ?_, fun i d h => ?_, fun i d h => ?_, S.raw, S.sep, p.cst, fun a z => .inl (S.cM a z), fun b z => z.elim (S1.mt b) (s b), S1.ent, S1.there, p.tabs, fun g0 e => ⟨(S.lb g0 e).c, (S.lb g0 e).H0, fun b z => ⟨.inl ((S.lb g0 e).sub b z).1, ((S.lb g0 e).sub b z).2⟩, fun b z => z.elim ((S.lb g0 e).sup b) fun z => .inr (by rw [← (S.lb g0 e).H0]; exact S.new0 (n b z))⟩⟩
  · obtain ⟨x, e, r⟩ := S.val i d h
    exact ⟨x, e, r.mono l⟩
  · obtain ⟨a, e, na, z, t⟩ := S.own i d h
    obtain ⟨o, eo, di⟩ := t.some
    refine ⟨a, e, fun q => q.elim na fun q => ?_, z, t.mono l fun o' eo' => ?_⟩
    · have e2 := n a q
      rw [eo] at e2; cases e2
    · rw [eo] at eo'; cases eo'
      exact p.keep a _ eo (fun ps z => by subst z; exact di) fun q => na (S.cM a q)
  · obtain ⟨x, e, r⟩ := S.bor i d h
    exact ⟨x, e, RepB.mono (g := g) l (fun _ _ e _ _ => e) r⟩
end
end G

set_option Elab.async false
set_option linter.all false
set_option maxRecDepth 100000
set_option maxHeartbeats 2000000
namespace G
set_option autoImplicit false
open PySem PySem.Spec PyProof.Rows L2

/-! ### results -/
def Re.bind {α β : Type} (r : Re α) (k : α → Cv → Re β) : Re β := match r with
  | .ok a c => k a c
  | .exn e c => .exn e c
  | .stk => .stk
def ExR (mg : Str → Option Value) (e : Exn) (cls : Value) (dd : Option Addr) (H : Hp) : Prop :=
  ∃ C, mg e.nm = some (.ref C) ∧ cls = .ref C ∧ match e.fs with
    | [] => dd = none
    | f :: r => ∃ d, dd = some d ∧ H d = some (.xd ((f :: r).map fun p => (p.1, V.int p.2)))
def ROut {α : Type} (Γ : Gx) (W : WX) (g : Gh) (σ : St) (H : Hp) (P : α → Cv → Hp → Prop) : Re α → Prop
  | .ok a c => ∀ H', Po Γ g H H' c → P a c H'
  | .exn e c => ∀ cls dd H', Po Γ g H H' c → ExR Γ.mg e cls dd H' → W cls dd σ H'
  | .stk => False
section
variable {Γ : Gx} {W : WX} {g : Gh} {σ : St} {H H1 : Hp} {env : Ev} {cv c1 : Cv} {α β : Type} {P P' : α → Cv → Hp → Prop} {r : Re α}
theorem ROut.shift (p : Po Γ g H H1 c1) (h : ROut Γ W g σ H P r) : ROut Γ W g σ H1 P r := by
  cases r with
  | ok a c => exact fun H' q => h H' (p.trans q)
  | exn e c => exact fun cls dd H' q => h cls dd H' (p.trans q)
  | stk => exact h
theorem ROut.mono (h : ROut Γ W g σ H P r) (i : ∀ a c H', Po Γ g H H' c → P a c H' → P' a c H') : ROut Γ W g σ H P' r := by
  cases r with
  | ok a c => exact fun H' q => i a c H' q (h H' q)
  | exn e c => exact h
  | stk => exact h
theorem ROut.bnd {k : α → Cv → Re β} {P : β → Cv → Hp → Prop} (h : ROut Γ W g σ H P (r.bind k)) : ROut Γ W g σ H (fun a c1 H1 => Po Γ g H H1 c1 ∧ ROut Γ W g σ H1 P (k a c1)) r := by
  cases r with
  | ok a c => exact fun H' q => ⟨q, ROut.shift q h⟩
  | exn e c => exact h
  | stk => exact h
end

/-! ### the readings -/
def PV (Γ : Gx) (g : Gh) (σ : St) (env : Ev) (Q : VK) (d : Va) (_ : Cv) (H' : Hp) : Prop := ∀ x, RepA Γ g (hid H' (Mt g σ env)) x d → Q x H'
def PL (Γ : Gx) (g : Gh) (σ : St) (env : Ev) (Q : List V → Hp → Prop) (ds : List Va) (_ : Cv) (H' : Hp) : Prop := ∀ xs, RepLA Γ g (hid H' (Mt g σ env)) xs ds → Q xs H'
def PB (Q : Bool → Hp → Prop) (b : Bool) (_ : Cv) (H' : Hp) : Prop := Q b H'
/-- fresh: an object of one's own -/
def Mp (g : Gh) (σ : St) (env : Ev) (a b : Addr) : Prop := Mt g σ env b ∨ b = a
def PF (Γ : Gx) (g : Gh) (σ : St) (env : Ev) (H : Hp) (Q : VK) (d : Va) (_ : Cv) (H' : Hp) : Prop := ∀ a, H a = none → Top Γ g (hid H' (Mp g σ env a)) H' a d → Q (.ref a) H'
def TD (Γ : Gx) (W : WX) (f : SE) : TE := fun σ H Q => ∃ g env cv, SR Γ g σ H env cv ∧ ROut Γ W g σ H (PV Γ g σ env Q) (f env cv)
def TF (Γ : Gx) (W : WX) (f : SE) : TE := fun σ H Q => ∃ g env cv, SR Γ g σ H env cv ∧ ROut Γ W g σ H (PF Γ g σ env H Q) (f env cv)
def TB (Γ : Gx) (W : WX) (f : ST) : TT := fun σ H Q => ∃ g env cv, SR Γ g σ H env cv ∧ ROut Γ W g σ H (PB Q) (f env cv)
def TL (Γ : Gx) (W : WX) (f : SA) : TA := fun σ H Q => ∃ g env cv, SR Γ g σ H env cv ∧ ROut Γ W g σ H (PL Γ g σ env Q) (f env cv)
abbrev gx (X : Cx) (T : Gt) : Gx := ⟨X.K, X.mg, T.tb, T.lf, T.xa, T.lb⟩
def RE (X : Cx) (T : Gt) (W : WX) (e : Expr) (f : SE) : Prop := PE X e (TD (gx X T) W f)
def RF (X : Cx) (T : Gt) (W : WX) (e : Expr) (f : SE) : Prop := PE X e (TF (gx X T) W f)
def RT (X : Cx) (T : Gt) (W : WX) (e : Expr) (f : ST) : Prop := PT X e (TB (gx X T) W f)
def RW (X : Cx) (T : Gt) (W : WX) (e : Expr) (f : ST) : Prop := PW X e (TB (gx X T) W f)
def RA (X : Cx) (T : Gt) (W : WX) (es : List Expr) (f : SA) : Prop := PA X es (TL (gx X T) W f)
theorem pe_imp {X : Cx} {e : Expr} {t t' : TE} (h : PE X e t) (i : ∀ σ H Q, t' σ H Q → t σ H Q) : PE X e t' := ⟨fun pins s σ H Q I q => h.run pins s σ H Q I (i σ H Q q)⟩
theorem pt_imp {X : Cx} {e : Expr} {t t' : TT} (h : PT X e t) (i : ∀ σ H Q, t' σ H Q → t σ H Q) : PT X e t' := ⟨fun pins s σ H Q I q => h.run pins s σ H Q I (i σ H Q q)⟩
theorem pw_imp {X : Cx} {e : Expr} {t t' : TT} (h : PW X e t) (i : ∀ σ H Q, t' σ H Q → t σ H Q) : PW X e t' := ⟨fun wh pins s σ H Q I q => h.run wh pins s σ H Q I (i σ H Q q)⟩
theorem pa_imp {X : Cx} {es : List Expr} {t t' : TA} (h : PA X es t) (i : ∀ σ H Q, t' σ H Q → t σ H Q) : PA X es t' := ⟨fun pos pins s σ H Q I q => h.run pos pins s σ H Q I (i σ H Q q)⟩
structure JX (X : Cx) (W : WX) : Prop where
  tk : L2N.Takes X W
  nd : X.N.Nodup
  hu : X.A.units + 66 < cLine
  po : PassesOwn (model X.prog X.w) X.A X.env X.xe
section
variable {Γ : Gx} {W : WX} {g : Gh} {σ : St} {H H' H1 : Hp} {env : Ev} {cv c1 : Cv} {Q : VK}
/-- a fresh object is a value -/
theorem PF.pv {d : Va} (p : Po Γ g H H' c1) (S : SR Γ g σ H env cv) (h : PV Γ g σ env Q d c1 H') : PF Γ g σ env H Q d c1 H' := fun a n t => by
  refine h _ (t.rep (le_hid (fun b o nb e _ => e) fun b z => .inl (.inl z)) fun o e => ?_)
  exact hid_of (fun z => S.newM n z) e
theorem td_of_tf {f : SE} {σ : St} {H : Hp} {Q : VK} (h : TD Γ W f σ H Q) : TF Γ W f σ H Q := by
  obtain ⟨g, env, cv, S, r⟩ := h
  exact ⟨g, env, cv, S, r.mono fun d c H' p q => PF.pv p S q⟩
end
section
variable {X : Cx} {T : Gt} {W : WX} {e a b c : Expr} {es : List Expr} {f h h' : SE} {fa fb : ST} {pos : Pos}
theorem RF.re (r : RF X T W e f) : RE X T W e f := pe_imp r fun σ H Q q => td_of_tf q

/-! ### names, constants -/
def eVar (i : Nat) : SE := fun env c => match env[i]? with
  | some (Sl.val d) => .ok d c
  | _ => .stk
theorem re_var (i : Nat) {x : Str} {pos : Pos} (hN : X.N[i]? = some x := by rfl) (hv : Vis X.env.scope x := by first | exact Or.inl rfl | exact Or.inr (Or.inl rfl) | exact Or.inr (Or.inr rfl)) (hd : (x == ("__debug__" : Str)) = false := by decide)
    (hcd : (x == ("__classdict__" : Str)) = false := by decide) : RE X T W (.Name x pos) (eVar i) := by
  refine pe_imp (pe_var hN hv hd hcd) fun σ H Q q => ?_
  obtain ⟨g, env, cv, S, r⟩ := q
  unfold eVar at r
  split at r
  · rename_i d e
    obtain ⟨x, ex, rx⟩ := S.val i d e
    exact ⟨x, ex, r H (Po.refl S) x rx⟩
  · exact r.elim
def eK (d : Va) : SE := fun _ c => .ok d c
theorem re_k {t : TE} {d : Va} (hp : PE X e t) (h : ∀ g : Gh, ∀ σ H Q, (∀ x, RepA (gx X T) g H x d → Q x H) → t σ H Q) (hh : ∀ g : Gh, ∀ H H' x, RepA (gx X T) g H x d → RepA (gx X T) g H' x d) : RE X T W e (eK d) :=
  pe_imp hp fun σ H Q q => by
    obtain ⟨g, env, cv, S, r⟩ := q
    exact h g σ H Q fun x rx => r H (Po.refl S) x (hh g _ _ _ rx)
theorem re_int {i j} : RE X T W (.Constant (.int i) j pos) (eK (.int i)) := pe_imp pe_int fun σ H Q ⟨g, env, cv, S, r⟩ => r H (Po.refl S) _ (.int i)
theorem re_bl {i j} : RE X T W (.Constant (.bool i) j pos) (eK (.bl i)) := pe_imp pe_bl fun σ H Q ⟨g, env, cv, S, r⟩ => r H (Po.refl S) _ (.bl i)
theorem re_non {j} : RE X T W (.Constant .none j pos) (eK .non) := pe_imp pe_non fun σ H Q ⟨g, env, cv, S, r⟩ => r H (Po.refl S) _ .non
theorem re_str {s j} : RE X T W (.Constant (.str s) j pos) (eK (.str s)) := pe_imp pe_str fun σ H Q ⟨g, env, cv, S, r⟩ => r H (Po.refl S) _ (.str s)
/-- a global constant: an int, a text -/
theorem re_gint {x : Str} {i : Int} {t : Tok} (hm : X.mg x = some (.int i t)) (hg : Gl X x := by rfl) (hd : (x == ("__debug__" : Str)) = false := by decide) : RE X T W (.Name x pos) (eK (.int i)) :=
  pe_imp (pe_glob (v := .int i) hg hm ⟨_, rfl⟩ hd) fun σ H Q ⟨g, env, cv, S, r⟩ => r H (Po.refl S) _ (.int i)
theorem re_gstr {x s : Str} {t : Tok} (hm : X.mg x = some (.str s t)) (hg : Gl X x := by rfl) (hd : (x == ("__debug__" : Str)) = false := by decide) : RE X T W (.Name x pos) (eK (.str s)) :=
  pe_imp (pe_glob (v := .str s) hg hm ⟨_, rfl⟩ hd) fun σ H Q ⟨g, env, cv, S, r⟩ => r H (Po.refl S) _ (.str s)
/-- a def as a value -/
theorem re_gfn {x : Str} {f : Addr} (hm : X.mg x = some (.ref f)) (hg : Gl X x := by rfl) (hd : (x == ("__debug__" : Str)) = false := by decide) : RE X T W (.Name x pos) (eK (.fn x)) :=
  pe_imp (pe_glob (v := .ref f) hg hm rfl hd) fun σ H Q ⟨g, env, cv, S, r⟩ => r H (Po.refl S) _ (.fn hm)

/-! ### borrowed values: an own object is read and not kept -/
section
variable {Γ : Gx} {W : WX} {g : Gh} {σ : St} {H H' H1 : Hp} {env : Ev} {cv c1 : Cv} {Q : VK} {x y : V} {d : Va}
theorem SR.nc (S : SR Γ g σ H env cv) {a : Addr} (n : ¬ Mt g σ env a) : g.c ≠ some a := fun z => n (.inl (S.cM a z))
theorem RepB.of (S : SR Γ g σ H env cv) (r : RepA Γ g (hid H (Mt g σ env)) x d) : RepB Γ g (hid H (Mt g σ env)) H x d := by
  cases r with
  | lst h r => exact ⟨_, _, rfl, S.nc (hid_some h).1, (hid_some h).2, r⟩
  | dic h e r => exact ⟨_, rfl, S.nc (hid_rd h).1, _, (hid_rd h).2, e, r⟩
  | dicT h e r => exact ⟨_, rfl, S.nc (hid_rd h).1, _, (hid_rd h).2, e, r⟩
  | non => exact .non
  | bl b => exact .bl b
  | int i => exact .int i
  | str s => exact .str s
  | tup h r => exact .tup h r
  | fn h => exact .fn h
  | cup h => exact .cup h
  | scr h => exact .scr h
theorem RepB.top (S : SR Γ g σ H env cv) {a : Addr} {Hh : Hp} (n : ¬ g.M a) (t : Top Γ g Hh H a d) : RepB Γ g Hh H (.ref a) d := by
  have nc : g.c ≠ some a := fun z => n (S.cM a z)
  cases d with
  | lst ds => obtain ⟨xs, h1, h2⟩ := t; exact ⟨a, xs, rfl, nc, h1, h2⟩
  | dic t1 ks vs => cases t1 <;> (obtain ⟨kvs, h1, h2, h3⟩ := t; exact ⟨a, rfl, nc, kvs, .inl h1, h2, h3⟩)
  | _ => exact t.elim
/-- a borrowed value stays behind an expression -/
theorem RepB.after (S : SR Γ g σ H env cv) (p : Po Γ g H H1 c1) (r : RepB Γ g (hid H (Mt g σ env)) H x d) : RepB Γ g (hid H1 (Mt g σ env)) H1 x d := r.mono (p.le S) p.keep
end
def PVb (Γ : Gx) (g : Gh) (σ : St) (env : Ev) (Q : VK) (d : Va) (_ : Cv) (H' : Hp) : Prop := ∀ x, RepB Γ g (hid H' (Mt g σ env)) H' x d → Q x H'
def TDb (Γ : Gx) (W : WX) (f : SE) : TE := fun σ H Q => ∃ g env cv, SR Γ g σ H env cv ∧ ROut Γ W g σ H (PVb Γ g σ env Q) (f env cv)
def RB (X : Cx) (T : Gt) (W : WX) (e : Expr) (f : SE) : Prop := PE X e (TDb (gx X T) W f)
theorem RE.rb (r : RE X T W e f) : RB X T W e f := pe_imp r fun σ H Q q => by
  obtain ⟨g, env, cv, S, r⟩ := q
  exact ⟨g, env, cv, S, r.mono fun d c H' p q x rx => q x (RepB.of (S.after p) rx)⟩
def eVarB (i : Nat) : SE := fun env c => match env[i]? with
  | some (Sl.val d) => .ok d c
  | some (Sl.own d) => .ok d c
  | some (Sl.bor d) => .ok d c
  | _ => .stk
theorem rb_var (i : Nat) {x : Str} {pos : Pos} (hN : X.N[i]? = some x := by rfl) (hv : Vis X.env.scope x := by first | exact Or.inl rfl | exact Or.inr (Or.inl rfl) | exact Or.inr (Or.inr rfl)) (hd : (x == ("__debug__" : Str)) = false := by decide)
    (hcd : (x == ("__classdict__" : Str)) = false := by decide) : RB X T W (.Name x pos) (eVarB i) := by
  refine pe_imp (pe_var hN hv hd hcd) fun σ H Q q => ?_
  obtain ⟨g, env, cv, S, r⟩ := q
  unfold eVarB at r
  split at r
  · rename_i d e
    obtain ⟨x, ex, rx⟩ := S.val i d e
    exact ⟨x, ex, r H (Po.refl S) x (RepB.of S rx)⟩
  · rename_i d e
    obtain ⟨a, ex, n, _, t⟩ := S.own i d e
    exact ⟨_, ex, r H (Po.refl S) _ (RepB.top S n t)⟩
  · rename_i d e
    obtain ⟨x, ex, rx⟩ := S.bor i d e
    exact ⟨x, ex, r H (Po.refl S) x (rx.mono (Le.refl _) S.ent)⟩
  · exact r.elim

/-! ### two values, an operation -/
def eB2 (f h : SE) (k : Va → Va → Cv → Re Va) : SE := fun env c => (f env c).bind fun a c1 => (h env c1).bind fun b c2 => k a b c2
def eB1 (f : SE) (k : Va → Cv → Re Va) : SE := fun env c => (f env c).bind fun a c1 => k a c1
section
variable {Γ : Gx} {g : Gh} {σ : St} {H : Hp} {env : Ev} {cv : Cv} {α : Type} {P : α → Cv → Hp → Prop}
theorem two {f h : SE} {k : Va → Va → Cv → Re α} (S : SR Γ g σ H env cv) {R : V → V → Hp → Prop} (r : ROut Γ W g σ H P ((f env cv).bind fun a c1 => (h env c1).bind fun b c2 => k a b c2))
    (i : ∀ a b c2 H2 x y, SR Γ g σ H2 env c2 → Po Γ g H H2 c2 → RepB Γ g (hid H2 (Mt g σ env)) H2 x a → RepB Γ g (hid H2 (Mt g σ env)) H2 y b → ROut Γ W g σ H2 P (k a b c2) → R x y H2) :
    TDb Γ W f σ H fun x H1 => TDb Γ W h σ H1 fun y H2 => R x y H2 :=
  ⟨g, env, cv, S, r.bnd.mono fun a c1 H1 p q x rx => ⟨g, env, c1, S.after p, q.2.bnd.mono fun b c2 H2 p2 q2 y ry =>
    i a b c2 H2 x y ((S.after p).after p2) (p.trans p2) (rx.after (S.after p) p2) ry q2.2⟩⟩
theorem one {f : SE} {k : Va → Cv → Re α} (S : SR Γ g σ H env cv) {R : V → Hp → Prop} (r : ROut Γ W g σ H P ((f env cv).bind fun a c1 => k a c1))
    (i : ∀ a c1 H1 x, SR Γ g σ H1 env c1 → Po Γ g H H1 c1 → RepB Γ g (hid H1 (Mt g σ env)) H1 x a → ROut Γ W g σ H1 P (k a c1) → R x H1) :
    TDb Γ W f σ H R :=
  ⟨g, env, cv, S, r.bnd.mono fun a c1 H1 p q x rx => i a c1 H1 x (S.after p) p rx q.2⟩
end
/-- an operation on values keeps to k -/
def OpV (X : Cx) (T : Gt) (W : WX) (r : R2) (k : Va → Va → Cv → Re Va) : Prop :=
  ∀ (g : Gh) (σ : St) (H : Hp) (env : Ev) (cv : Cv) (x y : V) (a b : Va) (Q : VK), SR (gx X T) g σ H env cv → RepB (gx X T) g (hid H (Mt g σ env)) H x a → RepB (gx X T) g (hid H (Mt g σ env)) H y b →
    ROut (gx X T) W g σ H (PV (gx X T) g σ env Q) (k a b cv) → r x y H Q
def UnV (X : Cx) (T : Gt) (W : WX) (r : V → Hp → VK → Prop) (k : Va → Cv → Re Va) : Prop :=
  ∀ (g : Gh) (σ : St) (H : Hp) (env : Ev) (cv : Cv) (x : V) (a : Va) (Q : VK), SR (gx X T) g σ H env cv → RepB (gx X T) g (hid H (Mt g σ env)) H x a →
    ROut (gx X T) W g σ H (PV (gx X T) g σ env Q) (k a cv) → r x H Q
/-- .. a fresh object comes -/
def UnF (X : Cx) (T : Gt) (W : WX) (r : V → Hp → VK → Prop) (k : Va → Cv → Re Va) : Prop :=
  ∀ (g : Gh) (σ : St) (H H0 : Hp) (env : Ev) (cv : Cv) (x : V) (a : Va) (Q : VK), SR (gx X T) g σ H env cv → (∀ b, H b = none → H0 b = none) → RepB (gx X T) g (hid H (Mt g σ env)) H x a →
    ROut (gx X T) W g σ H (PF (gx X T) g σ env H0 Q) (k a cv) → r x H Q
def OpF (X : Cx) (T : Gt) (W : WX) (r : R2) (k : Va → Va → Cv → Re Va) : Prop :=
  ∀ (g : Gh) (σ : St) (H H0 : Hp) (env : Ev) (cv : Cv) (x y : V) (a b : Va) (Q : VK), SR (gx X T) g σ H env cv → (∀ b, H b = none → H0 b = none) → RepB (gx X T) g (hid H (Mt g σ env)) H x a → RepB (gx X T) g (hid H (Mt g σ env)) H y b →
    ROut (gx X T) W g σ H (PF (gx X T) g σ env H0 Q) (k a b cv) → r x y H Q
theorem Po.none {Γ : Gx} {g : Gh} {H H1 : Hp} {c : Cv} (p : Po Γ g H H1 c) (b : Addr) (h : H1 b = none) : H b = none := by
  cases q : H b with
  | none => rfl
  | some o =>
    obtain ⟨o1, e⟩ := p.there b o q
    rw [h] at e; cases e
theorem re_bin {op : Operator} {r : R2} {k : Va → Va → Cv → Re Va} (ho : OpR X (binaryOp op) r) (hv : OpV X T W r k) (ha : RB X T W a f) (hb : RB X T W b h) : RE X T W (.BinOp a op b pos) (eB2 f h k) :=
  pe_imp (pe_op ho ha hb) fun σ H Q ⟨g, env, cv, S, r⟩ => two S r fun a b c2 H2 x y S2 _ rx ry q => hv g σ H2 env c2 x y a b Q S2 rx ry q
theorem rf_bin {op : Operator} {r : R2} {k : Va → Va → Cv → Re Va} (ho : OpR X (binaryOp op) r) (hv : OpF X T W r k) (ha : RB X T W a f) (hb : RB X T W b h) : RF X T W (.BinOp a op b pos) (eB2 f h k) :=
  pe_imp (pe_op ho ha hb) fun σ H Q ⟨g, env, cv, S, r⟩ => two S r fun a b c2 H2 x y S2 p rx ry q => hv g σ H2 H env c2 x y a b Q S2 p.none rx ry q
theorem re_cmp {op : CmpOp} {r : R2} {k : Va → Va → Cv → Re Va} (ho : OpR X (compareOp op) r) (hv : OpV X T W r k) (ha : RB X T W a f) (hb : RB X T W b h) (hm : behindInMarks op b = false) : RE X T W (.Compare a [op] [b] pos) (eB2 f h k) :=
  pe_imp (pe_cmpR ho ha hb hm) fun σ H Q ⟨g, env, cv, S, r⟩ => two S r fun a b c2 H2 x y S2 _ rx ry q => hv g σ H2 env c2 x y a b Q S2 rx ry q
/-- a bool as a test -/
def tV (f : SE) : ST := fun env c => (f env c).bind fun d c1 => match d with
  | .bl b => .ok b c1
  | _ => .stk
/-- what is done with the answer k of a test on values -/
theorem tv_out {Γ : Gx} {g : Gh} {σ : St} {H : Hp} {env : Ev} {cv : Cv} {Q : Bool → Hp → Prop} {r : Re Va} (S : SR Γ g σ H env cv) (h : ROut Γ W g σ H (PB Q) (r.bind fun d c1 => match d with
  | .bl b => Re.ok b c1
  | _ => .stk)) : ROut Γ W g σ H (PV Γ g σ env fun x H' => ∃ k, x = .bl k ∧ Q k H') r := by
  refine h.bnd.mono fun d c1 H1 p q x rx => ?_
  cases d with
  | bl b =>
    cases rx
    exact ⟨b, rfl, q.2 H1 (Po.refl (S.after p))⟩
  | _ => exact q.2.elim
theorem rt_cmp {op : CmpOp} {r : R2} {k : Va → Va → Cv → Re Va} (ho : OpR X (compareOp op) r) (hv : OpV X T W r k) (ha : RB X T W a f) (hb : RB X T W b h) (hm : behindInMarks op b = false) : RT X T W (.Compare a [op] [b] pos) (tV (eB2 f h k)) :=
  pt_imp (pt_cmpR ho ha hb hm) fun σ H Q ⟨g, env, cv, S, r⟩ => two S (tv_out S r) fun a b c2 H2 x y S2 _ rx ry q => hv g σ H2 env c2 x y a b _ S2 rx ry q
theorem rt_val (h : RE X T W e f) (he : ∀ whole, isTrue e X.env whole = (do let v ← whole; standAt e.pos; holding [v] (truthy v)) := by intro _; rfl) : RT X T W e (tV f) :=
  pt_imp (pt_val h he) fun σ H Q ⟨g, env, cv, S, r⟩ => ⟨g, env, cv, S, tv_out S r⟩
/-! ### and, or, not, if else -/
def tAnd (s t : ST) : ST := fun env c => (s env c).bind fun b c1 => if b then t env c1 else .ok false c1
def tOr (s t : ST) : ST := fun env c => (s env c).bind fun b c1 => if b then .ok true c1 else t env c1
def tNot (s : ST) : ST := fun env c => (s env c).bind fun b c1 => .ok (!b) c1
theorem RW.rt (h : RW X T W e fa) : RT X T W e fa := PW.pt h
theorem rw_and1 (ha : RT X T W a fa) : RW X T W (.BoolOp .And [a] pos) fa := pw_and1 ha
theorem rw_or1 (ha : RT X T W a fa) : RW X T W (.BoolOp .Or [a] pos) fa := pw_or1 ha
theorem rw_and {rest : List Expr} (ha : RT X T W a fa) (hb : RW X T W (.BoolOp .And (b :: rest) pos) fb) : RW X T W (.BoolOp .And (a :: b :: rest) pos) (tAnd fa fb) :=
  pw_imp (pw_and ha hb) fun σ H Q ⟨g, env, cv, S, r⟩ => ⟨g, env, cv, S, r.bnd.mono fun b c1 H1 p q => by
    cases b with
    | true => exact ⟨g, env, c1, S.after p, q.2⟩
    | false => exact q.2 H1 (Po.refl (S.after p))⟩
theorem rw_or {rest : List Expr} (ha : RT X T W a fa) (hb : RW X T W (.BoolOp .Or (b :: rest) pos) fb) : RW X T W (.BoolOp .Or (a :: b :: rest) pos) (tOr fa fb) :=
  pw_imp (pw_or ha hb) fun σ H Q ⟨g, env, cv, S, r⟩ => ⟨g, env, cv, S, r.bnd.mono fun b c1 H1 p q => by
    cases b with
    | false => exact ⟨g, env, c1, S.after p, q.2⟩
    | true => exact q.2 H1 (Po.refl (S.after p))⟩
theorem rt_not (ha : RT X T W a fa) : RT X T W (.UnaryOp .Not a pos) (tNot fa) :=
  pt_imp (pt_not ha) fun σ H Q ⟨g, env, cv, S, r⟩ => ⟨g, env, cv, S, r.bnd.mono fun b c1 H1 p q => q.2 H1 (Po.refl (S.after p))⟩
/-- .. as values -/
def eAnd (f h : SE) : SE := fun env c => (tV f env c).bind fun b c1 => if b then h env c1 else .ok (.bl false) c1
def eOr (f h : SE) : SE := fun env c => (tV f env c).bind fun b c1 => if b then .ok (.bl true) c1 else h env c1
def eNot (f : SE) : SE := fun env c => (tV f env c).bind fun b c1 => .ok (.bl (!b)) c1
def eIf (t : ST) (f h : SE) : SE := fun env c => (t env c).bind fun b c1 => if b then f env c1 else h env c1
theorem re_one {op : BoolOp} (ha : RE X T W a f) : RE X T W (.BoolOp op [a] pos) f := pe_one ha
theorem re_and {rest : List Expr} (ha : RE X T W a f) (hb : RE X T W (.BoolOp .And (b :: rest) pos) h) : RE X T W (.BoolOp .And (a :: b :: rest) pos) (eAnd f h) :=
  pe_imp (pe_and ha hb) fun σ H Q ⟨g, env, cv, S, r⟩ => ⟨g, env, cv, S, (tv_out (Q := fun b H1 => if b = true then TD (gx X T) W h σ H1 Q else Q (.bl false) H1) S (r.bnd.mono fun b c1 H1 p q => by
    cases b with
    | true => exact ⟨g, env, c1, S.after p, q.2⟩
    | false => exact q.2 H1 (Po.refl (S.after p)) _ (.bl false)))⟩
theorem re_or {rest : List Expr} (ha : RE X T W a f) (hb : RE X T W (.BoolOp .Or (b :: rest) pos) h) : RE X T W (.BoolOp .Or (a :: b :: rest) pos) (eOr f h) :=
  pe_imp (pe_or ha hb) fun σ H Q ⟨g, env, cv, S, r⟩ => ⟨g, env, cv, S, (tv_out (Q := fun b H1 => if b = true then Q (.bl true) H1 else TD (gx X T) W h σ H1 Q) S (r.bnd.mono fun b c1 H1 p q => by
    cases b with
    | false => exact ⟨g, env, c1, S.after p, q.2⟩
    | true => exact q.2 H1 (Po.refl (S.after p)) _ (.bl true)))⟩
theorem re_not (ha : RE X T W a f) : RE X T W (.UnaryOp .Not a pos) (eNot f) :=
  pe_imp (pe_not ha) fun σ H Q ⟨g, env, cv, S, r⟩ => ⟨g, env, cv, S, (tv_out (Q := fun b H1 => Q (.bl (!b)) H1) S (r.bnd.mono fun b c1 H1 p q => q.2 H1 (Po.refl (S.after p)) _ (.bl _)))⟩
theorem re_if (ht : RT X T W c fa) (ha : RE X T W a f) (hb : RE X T W b h) : RE X T W (.IfExp c a b pos) (eIf fa f h) :=
  pe_imp (pe_ifExp ht ha hb) fun σ H Q ⟨g, env, cv, S, r⟩ => ⟨g, env, cv, S, r.bnd.mono fun b c1 H1 p q => by
    cases b with
    | true => exact ⟨g, env, c1, S.after p, q.2⟩
    | false => exact ⟨g, env, c1, S.after p, q.2⟩⟩
/-- .. of two fresh ones -/
theorem rf_if (ht : RT X T W c fa) (ha : RF X T W a f) (hb : RF X T W b h) : RF X T W (.IfExp c a b pos) (eIf fa f h) :=
  pe_imp (pe_ifExp ht ha hb) fun σ H Q ⟨g, env, cv, S, r⟩ => ⟨g, env, cv, S, r.bnd.mono fun b c1 H1 p q => by
    cases b with
    | true => exact ⟨g, env, c1, S.after p, q.2.mono fun d c2 H2 p2 q2 a n t => q2 a (p.none a n) t⟩
    | false => exact ⟨g, env, c1, S.after p, q.2.mono fun d c2 H2 p2 q2 a n t => q2 a (p.none a n) t⟩⟩
/-! ### chains of two comparisons -/
def eChain (f h j : SE) (k k' : Va → Va → Cv → Re Va) : SE := fun env c => (f env c).bind fun a c1 => (h env c1).bind fun b c2 => (k a b c2).bind fun z c3 => match z with
  | .bl true => (j env c3).bind fun d c4 => k' b d c4
  | .bl false => .ok (.bl false) c3
  | _ => .stk
theorem chain_in {op op' : CmpOp} {r r' : R2} {k k' : Va → Va → Cv → Re Va} (hv : OpV X T W r k) (hv' : OpV X T W r' k') {σ : St} {H : Hp} {Q : VK} {g : Gh} {env : Ev} {cv : Cv} (S : SR (gx X T) g σ H env cv)
    {j : SE} (q : ROut (gx X T) W g σ H (PV (gx X T) g σ env Q) (eChain f h j k k' env cv)) : tChain r r' (TDb (gx X T) W f) (TDb (gx X T) W h) (TDb (gx X T) W j) σ H Q := by
  refine two S q fun a b c2 H2 x y S2 _ rx ry q => ?_
  refine hv g σ H2 env c2 x y a b _ S2 rx ry (q.bnd.mono fun z c3 H3 p3 q3 zx rz => ?_)
  cases z with
  | bl z =>
    cases rz
    refine ⟨z, rfl, ?_⟩
    cases z with
    | true => exact one (S2.after p3) q3.2 fun d c4 H4 w S4 p4 rw q4 => hv' g σ H4 env c4 y w b d Q S4 ((ry.after S2 p3).after (S2.after p3) p4) rw q4
    | false => exact q3.2 H3 (Po.refl (S2.after p3)) _ (.bl false)
  | _ => exact q3.2.elim
theorem re_chain {op op' : CmpOp} {r r' : R2} {k k' : Va → Va → Cv → Re Va} {j : SE} (ho : OpR X (compareOp op) r) (hv : OpV X T W r k) (ho' : OpR X (compareOp op') r') (hv' : OpV X T W r' k') (ha : RB X T W a f) (hb : RB X T W b h) (hc : RB X T W c j)
    (hm : lastMarks [op, op'] [b, c] = false := by with_unfolding_all rfl) : RE X T W (.Compare a [op, op'] [b, c] pos) (eChain f h j k k') :=
  pe_imp (pe_chain ho ho' ha hb hc hm) fun σ H Q ⟨g, env, cv, S, r⟩ => chain_in (op := op) (op' := op') hv hv' S r
theorem rt_chain {op op' : CmpOp} {r r' : R2} {k k' : Va → Va → Cv → Re Va} {j : SE} (ho : OpR X (compareOp op) r) (hv : OpV X T W r k) (ho' : OpR X (compareOp op') r') (hv' : OpV X T W r' k') (ha : RB X T W a f) (hb : RB X T W b h) (hc : RB X T W c j)
    (hm : lastMarks [op, op'] [b, c] = false := by with_unfolding_all rfl) : RT X T W (.Compare a [op, op'] [b, c] pos) (tV (eChain f h j k k')) :=
  pt_imp (pt_chain ho ho' ha hb hc hm) fun σ H Q ⟨g, env, cv, S, r⟩ => chain_in (op := op) (op' := op') hv hv' S (tv_out S r)
end
end G

set_option Elab.async false
set_option linter.all false
set_option maxRecDepth 100000
set_option maxHeartbeats 2000000
namespace G
set_option autoImplicit false
open PySem PySem.Spec PyProof.Rows L2

/-! ### plain data -/
mutual
def toP : Va → PyData
  | .bl b => .bool b
  | .int i => .int i
  | .str s => .str s
  | .tup ds => .tuple (toPs ds)
  | .lst ds => .list (toPs ds)
  | .non => .none
  | .dic _ _ _ => .none
  | .fn _ => .none
  | .cup => .none
  | .scr _ => .none
def toPs : List Va → List PyData
  | [] => []
  | d :: r => toP d :: toPs r
end
mutual
/-- data of a depth below n: no dict, no def -/
def wf : Nat → Va → Bool
  | 0, _ => false
  | n + 1, .tup ds => wfs n ds
  | n + 1, .lst ds => wfs n ds
  | _ + 1, .dic _ _ _ => false
  | _ + 1, .fn _ => false
  | _ + 1, .cup => false
  | _ + 1, .scr _ => false
  | _ + 1, _ => true
def wfs : Nat → List Va → Bool
  | _, [] => true
  | n, d :: r => wf n d && wfs n r
end
mutual
theorem wf_plain : ∀ (n : Nat) (d : Va), wf n d = true → (toP d).plain = true ∧ (toP d).depth ≤ n
  | 0, d, h => by simp [wf] at h
  | n + 1, d, h => by
    cases d with
    | tup ds =>
      have ⟨h1, h2⟩ := wfs_plain n ds (by simpa [wf] using h)
      simp only [toP, PyData.plain, PyData.depth]; exact ⟨h1, by omega⟩
    | lst ds =>
      have ⟨h1, h2⟩ := wfs_plain n ds (by simpa [wf] using h)
      simp only [toP, PyData.plain, PyData.depth]; exact ⟨h1, by omega⟩
    | _ => first | (simp [wf] at h; done) | simp [toP, PyData.plain, PyData.depth]
theorem wfs_plain : ∀ (n : Nat) (ds : List Va), wfs n ds = true → PyData.plainAll (toPs ds) = true ∧ PyData.depthAll (toPs ds) ≤ n
  | n, [], h => by simp [toPs, PyData.plainAll, PyData.depthAll]
  | n, d :: r, h => by
    rw [wfs, Bool.and_eq_true] at h
    have ⟨h1, h2⟩ := wf_plain n d h.1
    have ⟨h3, h4⟩ := wfs_plain n r h.2
    simp only [toPs, PyData.plainAll, PyData.depthAll, h1, h3, Bool.and_self, true_and]
    omega
end
section
variable {K : PySem.W.Frag} {mg : Str → Option Value} {c : Option Addr} {H : Hp}
mutual
theorem Rep.dp : ∀ (n : Nat) (d : Va) (x : V), wf n d = true → Rep K mg c H x d → Dp K H x (toP d)
  | 0, d, _, h, _ => by simp [wf] at h
  | n + 1, .non, _, _, .non => by rw [toP]; exact .non
  | n + 1, .bl _, _, _, .bl b => by rw [toP]; exact .bl b
  | n + 1, .int _, _, _, .int i => by rw [toP]; exact .int i
  | n + 1, .str _, _, _, .str s => by rw [toP]; exact .str s
  | n + 1, .tup ds, _, h, .tup hs r => by rw [toP]; exact .tup (SqT.of hs) (RepL.dp n ds _ (by simpa [wf] using h) r)
  | n + 1, .lst ds, _, h, .lst hs r => by rw [toP]; exact .lst (SqL.of hs) (RepL.dp n ds _ (by simpa [wf] using h) r)
  | n + 1, .dic _ _ _, _, h, _ => by simp [wf] at h
  | n + 1, .fn _, _, h, _ => by simp [wf] at h
  | n + 1, .cup, _, h, _ => by simp [wf] at h
  | n + 1, .scr _, _, h, _ => by simp [wf] at h
theorem RepL.dp : ∀ (n : Nat) (ds : List Va) (xs : List V), wfs n ds = true → RepL K mg c H xs ds → DpAll K H xs (toPs ds)
  | n, [], _, _, .nil => by rw [toPs]; exact .nil
  | n, d :: r, _, h, .cons a b => by
    rw [wfs, Bool.and_eq_true] at h
    rw [toPs]
    exact .cons (Rep.dp n d _ h.1 a) (RepL.dp n r _ h.2 b)
end
end
section
variable {X : Cx} {T : Gt} {W : WX} {Γ : Gx} {g : Gh} {σ : St} {H H' : Hp} {env : Ev} {cv : Cv} {x y : V} {d a b : Va} {n : Nat}
/-- a borrowed value as data of the whole heap -/
theorem RepB.dp {M : Addr → Prop} (h : wf n d = true) (r : RepB Γ g (hid H M) H x d) : Dp Γ.K H x (toP d) := by
  cases n with
  | zero => simp [wf] at h
  | succ n =>
    have up : ∀ {x d}, wf (n + 1) d = true → RepA Γ g (hid H M) x d → Dp Γ.K H x (toP d) := fun h r => Rep.dp _ _ _ h (Rep.mono le_hid_of r)
    cases d with
    | lst ds =>
      obtain ⟨a, xs, rfl, _, h1, r⟩ := r
      rw [toP]
      exact .lst (SqL.of h1) (RepL.dp n ds _ (by simpa [wf] using h) (RepL.mono le_hid_of r))
    | dic t ks vs => simp [wf] at h
    | _ => exact up h r
/-- an operation on two data -/
theorem op_data {f : Value → Value → Sem Value} {z : PyData → PyData → Bool}
    (rule : ∀ (s : Shared) (v u : Value) (da db : PyData) (as bs : List Addr) (Q : Value → Shared → Prop), Reads s.heap v da as → Reads s.heap u db bs → da.plain = true → db.plain = true → min da.depth db.depth ≤ 60 → Q (.bool (z da db)) s → wpAny (model X.prog X.w) X.A (f v u) Q X.xe s) :
    OpR X f (fun x y H Q => ∃ da db, Dp X.K H x da ∧ Dp X.K H y db ∧ da.plain = true ∧ db.plain = true ∧ min da.depth db.depth ≤ 60 ∧ Q (.bl (z da db)) H) := by
  intro pins s σ H x y v u Q I rx ry h
  obtain ⟨da, db, h1, h2, p1, p2, hd, q⟩ := h
  obtain ⟨as, r1⟩ := Dp.reads I da x v h1 rx
  obtain ⟨bs, r2⟩ := Dp.reads I db y u h2 ry
  exact rule s v u da db as bs _ r1 r2 p1 p2 hd ⟨.bl _, H, I, rfl, q⟩

/-! ### == and != -/
def vEq (a b : Va) (c : Cv) : Re Va := if wf 60 a && wf 60 b then .ok (.bl ((toP a).eqv (toP b))) c else .stk
def vNe (a b : Va) (c : Cv) : Re Va := if wf 60 a && wf 60 b then .ok (.bl (!(toP a).eqv (toP b))) c else .stk
def rEqP (X : Cx) (z : PyData → PyData → Bool) : R2 := fun x y H Q => ∃ da db, Dp X.K H x da ∧ Dp X.K H y db ∧ da.plain = true ∧ db.plain = true ∧ min da.depth db.depth ≤ 60 ∧ Q (.bl (z da db)) H
theorem op_eqP (j : JX X W) : OpR X (compareOp .Eq) (rEqP X PyData.eqv) := op_data fun s v u da db as bs Q r1 r2 p1 p2 hd q => PySem.SeqAt.eq_plain r1 r2 p1 p2 (by have := j.hu; omega) q
theorem op_neP (j : JX X W) : OpR X (compareOp .NotEq) (rEqP X fun a b => !a.eqv b) := op_data fun s v u da db as bs Q r1 r2 p1 p2 hd q => PySem.SeqAt.ne_plain r1 r2 p1 p2 (by have := j.hu; omega) q
theorem opv_data {z : PyData → PyData → Bool} {k : Va → Va → Cv → Re Va} (hk : ∀ a b c, k a b c = if wf 60 a && wf 60 b then .ok (.bl (z (toP a) (toP b))) c else .stk) : OpV X T W (rEqP X z) k := by
  intro g σ H env cv x y a b Q S rx ry r
  rw [hk] at r
  split at r
  · rename_i h
    rw [Bool.and_eq_true] at h
    obtain ⟨p1, d1⟩ := wf_plain _ _ h.1
    obtain ⟨p2, d2⟩ := wf_plain _ _ h.2
    exact ⟨_, _, RepB.dp h.1 rx, RepB.dp h.2 ry, p1, p2, by omega, r H (Po.refl S) _ (.bl _)⟩
  · exact r.elim
theorem ov_eq : OpV X T W (rEqP X PyData.eqv) vEq := opv_data fun _ _ _ => rfl
theorem ov_ne : OpV X T W (rEqP X fun a b => !a.eqv b) vNe := opv_data fun _ _ _ => rfl

/-! ### order -/
def okC (a b : Va) : Bool := wf 60 a && wf 60 b && PySem.W.alike (toP a) (toP b) && (match a with | .non => false | _ => true)
def vCmp (z : PyData → PyData → Bool) (zi : Int → Int → Bool) : Va → Va → Cv → Re Va
  | .int i, .int j, c => .ok (.bl (zi i j)) c
  | a, b, c => if okC a b then .ok (.bl (z (toP a) (toP b))) c else .stk
def vLt := vCmp PySem.W.dataLt fun i j => decide (i < j)
def vLe := vCmp (fun a b => !PySem.W.dataLt b a) fun i j => decide (i ≤ j)
def vGt := vCmp (fun a b => PySem.W.dataLt b a) fun i j => decide (j < i)
def vGe := vCmp (fun a b => !PySem.W.dataLt a b) fun i j => decide (j ≤ i)
def rCmp (X : Cx) (z : PyData → PyData → Bool) (zi : Int → Int → Bool) : R2 := fun x y H Q => (∃ i j, x = .int i ∧ y = .int j ∧ Q (.bl (zi i j)) H) ∨
  ∃ da db, Dp X.K H x da ∧ Dp X.K H y db ∧ PySem.W.alike da db = true ∧ da ≠ .none ∧ min da.depth db.depth ≤ 60 ∧ Q (.bl (z da db)) H
theorem op_cmp {op : CmpOp} {z : PyData → PyData → Bool} {zi : Int → Int → Bool} (hi : OpR X (compareOp op) (rI0 fun i j => .bl (zi i j)))
    (rule : ∀ (s : Shared) (v u : Value) (da db : PyData) (as bs : List Addr) (Q : Value → Shared → Prop), Reads s.heap v da as → Reads s.heap u db bs → PySem.W.alike da db = true → da ≠ .none → min da.depth db.depth ≤ 60 → Q (.bool (z da db)) s → wpAny (model X.prog X.w) X.A (compareOp op v u) Q X.xe s) :
    OpR X (compareOp op) (rCmp X z zi) := by
  intro pins s σ H x y v u Q I rx ry h
  rcases h with h | ⟨da, db, h1, h2, p1, p2, hd, q⟩
  · exact hi pins s σ H x y v u Q I rx ry h
  · obtain ⟨as, r1⟩ := Dp.reads I da x v h1 rx
    obtain ⟨bs, r2⟩ := Dp.reads I db y u h2 ry
    exact rule s v u da db as bs _ r1 r2 p1 p2 hd ⟨.bl _, H, I, rfl, q⟩
theorem op_ltP (j : JX X W) : OpR X (compareOp .Lt) (rCmp X PySem.W.dataLt fun i j => decide (i < j)) := op_cmp op_lt fun s v u da db as bs Q r1 r2 p1 p2 hd q => PySem.W.lt_data r1 r2 p1 p2 (by have := j.hu; omega) q
theorem op_leP (j : JX X W) : OpR X (compareOp .LtE) (rCmp X (fun a b => !PySem.W.dataLt b a) fun i j => decide (i ≤ j)) := op_cmp op_le fun s v u da db as bs Q r1 r2 p1 p2 hd q => PySem.W.le_data r1 r2 p1 p2 (by have := j.hu; omega) q
theorem op_gtP (j : JX X W) : OpR X (compareOp .Gt) (rCmp X (fun a b => PySem.W.dataLt b a) fun i j => decide (j < i)) := op_cmp op_gt fun s v u da db as bs Q r1 r2 p1 p2 hd q => PySem.W.gt_data r1 r2 p1 p2 (by have := j.hu; omega) q
theorem op_geP (j : JX X W) : OpR X (compareOp .GtE) (rCmp X (fun a b => !PySem.W.dataLt a b) fun i j => decide (j ≤ i)) := op_cmp op_ge fun s v u da db as bs Q r1 r2 p1 p2 hd q => PySem.W.ge_data r1 r2 p1 p2 (by have := j.hu; omega) q
theorem ov_cmp (z : PyData → PyData → Bool) (zi : Int → Int → Bool) : OpV X T W (rCmp X z zi) (vCmp z zi) := by
  intro g σ H env cv x y a b Q S rx ry r
  unfold vCmp at r
  split at r
  · cases rx; cases ry
    exact .inl ⟨_, _, rfl, rfl, r H (Po.refl S) _ (.bl _)⟩
  · split at r
    · rename_i h
      unfold okC at h
      simp only [Bool.and_eq_true] at h
      obtain ⟨⟨⟨h1, h2⟩, h3⟩, h4⟩ := h
      obtain ⟨p1, d1⟩ := wf_plain _ _ h1
      obtain ⟨p2, d2⟩ := wf_plain _ _ h2
      refine .inr ⟨_, _, RepB.dp h1 rx, RepB.dp h2 ry, h3, ?_, by omega, r H (Po.refl S) _ (.bl _)⟩
      cases a <;> first | (simp at h4; done) | (simp [toP]; done) | (simp [wf] at h1; done)
    · exact r.elim

/-! ### is -/
def vIs : Va → Va → Cv → Re Va
  | .non, .non, c => .ok (.bl true) c
  | .bl a, .bl b, c => .ok (.bl (a == b)) c
  | _, .non, c => .ok (.bl false) c
  | _, _, _ => .stk
def vIsN : Va → Va → Cv → Re Va
  | .non, .non, c => .ok (.bl false) c
  | .bl a, .bl b, c => .ok (.bl (!(a == b))) c
  | _, .non, c => .ok (.bl true) c
  | _, _, _ => .stk
def rIsV (n : Bool → Bool) : R2 := fun x y H Q => (y = .non ∧ Q (.bl (n (decide (x = .non)))) H) ∨ ∃ a b, x = .bl a ∧ y = .bl b ∧ Q (.bl (n (decide (a = b)))) H
theorem op_isV : OpR X (compareOp .Is) (rIsV id) := op_isN.or op_is_bl
theorem op_isNV : OpR X (compareOp .IsNot) (rIsV not) := op_notN.or op_isnot_bl
theorem RepB.ne_non {M : Addr → Prop} (r : RepB Γ g (hid H M) H x d) (h : d ≠ .non) : x ≠ .non := by
  rintro rfl
  cases d with
  | non => exact h rfl
  | lst ds => obtain ⟨_, _, e, _⟩ := r; cases e
  | dic t ks vs => cases t <;> (obtain ⟨_, e, _⟩ := r; cases e)
  | _ => cases r
theorem ov_is : OpV X T W (rIsV id) vIs := by
  intro g σ H env cv x y a b Q S rx ry r
  unfold vIs at r
  split at r
  · cases rx; cases ry; exact .inl ⟨rfl, r H (Po.refl S) _ (.bl _)⟩
  · rename_i p q
    cases rx; cases ry
    refine .inr ⟨_, _, rfl, rfl, ?_⟩
    have := r H (Po.refl S) _ (.bl _)
    rwa [Bool.beq_eq_decide_eq] at this
  · rename_i h
    cases ry
    refine .inl ⟨rfl, ?_⟩
    rw [decide_eq_false (RepB.ne_non rx fun z => by subst z; exact h rfl)]
    exact r H (Po.refl S) _ (.bl _)
  · exact r.elim
theorem ov_isN : OpV X T W (rIsV not) vIsN := by
  intro g σ H env cv x y a b Q S rx ry r
  unfold vIsN at r
  split at r
  · cases rx; cases ry; exact .inl ⟨rfl, r H (Po.refl S) _ (.bl _)⟩
  · rename_i p q
    cases rx; cases ry
    refine .inr ⟨_, _, rfl, rfl, ?_⟩
    have := r H (Po.refl S) _ (.bl _)
    rwa [Bool.beq_eq_decide_eq] at this
  · rename_i h
    cases ry
    refine .inl ⟨rfl, ?_⟩
    rw [decide_eq_false (RepB.ne_non rx fun z => by subst z; exact h rfl)]
    exact r H (Po.refl S) _ (.bl _)
  · exact r.elim

/-! ### arithmetic -/
def L24 : Nat := 16777216
theorem l24 : L24 = sizeLine := sizeLine_eq.symm
def vAdd : Va → Va → Cv → Re Va
  | .int i, .int j, c => .ok (.int (i + j)) c
  | .str i, .str j, c => if i.length + j.length ≤ L24 then .ok (.str (i ++ j)) c else .stk
  | .tup xs, .tup ys, c => if xs.length + ys.length ≤ L24 then .ok (.tup (xs ++ ys)) c else .stk
  | .lst xs, .lst ys, c => if xs.length + ys.length ≤ L24 then .ok (.lst (xs ++ ys)) c else .stk
  | _, _, _ => .stk
def vCat : Va → Va → Cv → Re Va
  | .lst xs, .lst ys, c => if xs.length + ys.length ≤ L24 then .ok (.lst (xs ++ ys)) c else .stk
  | _, _, _ => .stk
def rAddV (K : PySem.W.Frag) : R2 := fun x y H Q => (((rI0 fun i j => V.int (i + j)) x y H Q ∨ (∃ i j, x = .str i ∧ y = .str j ∧ i.length + j.length ≤ sizeLine ∧ Q (.str (i ++ j)) H)) ∨ rCatA K x y H Q) ∨ rCat x y H Q
theorem op_addV : OpR X (binaryOp .Add) (rAddV X.K) := ((op_add.or op_add_str).or op_catA).or op_cat
theorem ov_add : OpV X T W (rAddV X.K) vAdd := by
  intro g σ H env cv x y a b Q S rx ry r
  unfold vAdd at r
  split at r
  · cases rx; cases ry; exact .inl (.inl (.inl ⟨_, _, rfl, rfl, r H (Po.refl S) _ (.int _)⟩))
  · split at r
    · rename_i h
      cases rx; cases ry; exact .inl (.inl (.inr ⟨_, _, rfl, rfl, by rw [← l24]; exact h, r H (Po.refl S) _ (.str _)⟩))
    · exact r.elim
  · split at r
    · rename_i h
      cases rx with
      | tup hx rx =>
        cases ry with
        | tup hy ry =>
          have e1 := rx.length
          have e2 := ry.length
          refine .inl (.inr ⟨_, _, _, _, rfl, rfl, SqT.of (hid_some hx).2, SqT.of (hid_some hy).2, by rw [← l24]; omega, fun z => ?_, fun _ z => ?_, fun _ _ p n => ?_⟩)
          · subst z
            cases rx
            exact r H (Po.refl S) _ (.tup hy ry)
          · subst z
            cases ry
            rw [List.append_nil] at r
            exact r H (Po.refl S) _ (.tup hx rx)
          · refine r _ (Po.new S n fun _ z => by cases z) _ (.tup (hid_of (S.newM n) upd_same) ?_)
            exact RepL.mono (Po.le S (Po.new S n fun _ z => by cases z)) (rx.append ry)
    · exact r.elim
  · split at r
    · rename_i h
      obtain ⟨a1, xs1, rfl, _, h1, r1⟩ := rx
      obtain ⟨a2, xs2, rfl, _, h2, r2⟩ := ry
      have e1 := r1.length
      have e2 := r2.length
      refine .inr ⟨_, _, _, _, rfl, rfl, h1, h2, by rw [← l24]; omega, fun p n => ?_⟩
      exact r _ (Po.new S n fun _ z => by cases z) _ (.lst (hid_of (S.newM n) upd_same) (RepL.mono (Po.le S (Po.new S n fun _ z => by cases z)) (r1.append r2)))
    · exact r.elim
  · exact r.elim
theorem le_new {o : HO} {p : Addr} (S : SR Γ g σ H env cv) (n : H p = none) : Le (hid H (Mt g σ env)) (hid (upd H p o) (Mp g σ env p)) :=
  le_hid (fun b u _ e _ => upd_new_keep n b u e) fun b z => z.imp id fun q => by subst q; exact n
theorem of_cat : OpF X T W rCat vCat := by
  intro g σ H H0 env cv x y a b Q S h0 rx ry r
  unfold vCat at r
  split at r
  · split at r
    · rename_i h
      obtain ⟨a1, xs1, rfl, _, h1, r1⟩ := rx
      obtain ⟨a2, xs2, rfl, _, h2, r2⟩ := ry
      have e1 := r1.length
      have e2 := r2.length
      refine ⟨_, _, _, _, rfl, rfl, h1, h2, by rw [← l24]; omega, fun p n => ?_⟩
      exact r _ (Po.new S n fun _ z => by cases z) p (h0 p n) ⟨_, upd_same, RepL.mono (le_new S n) (r1.append r2)⟩
    · exact r.elim
  · exact r.elim
/-- ints -/
def vI2 (g : Int → Int → Bool) (z : Int → Int → Int) : Va → Va → Cv → Re Va
  | .int i, .int j, c => if g i j then .ok (.int (z i j)) c else .stk
  | _, _, _ => .stk
def rI2 (g : Int → Int → Bool) (z : Int → Int → Int) : R2 := rI (fun i j => g i j = true) fun i j => .int (z i j)
theorem ov_i2 {gd : Int → Int → Bool} {z : Int → Int → Int} : OpV X T W (rI2 gd z) (vI2 gd z) := by
  intro g σ H env cv x y a b Q S rx ry r
  unfold vI2 at r
  split at r
  · split at r
    · cases rx; cases ry; exact ⟨_, _, rfl, rfl, ‹_›, r H (Po.refl S) _ (.int _)⟩
    · exact r.elim
  · exact r.elim
theorem op_of {f : Value → Value → Sem Value} {C : Int → Int → Prop} {gd : Int → Int → Bool} {z : Int → Int → Int} (h : OpR X f (rI C fun i j => .int (z i j))) (i : ∀ i j, gd i j = true → C i j) : OpR X f (rI2 gd z) := by
  intro pins s σ H x y v u Q I rx ry q
  obtain ⟨a, b, e1, e2, hg, q⟩ := q
  exact h pins s σ H x y v u Q I rx ry ⟨a, b, e1, e2, i a b hg, q⟩
theorem op_of0 {f : Value → Value → Sem Value} {z : Int → Int → Int} (h : OpR X f (rI0 fun i j => .int (z i j))) : OpR X f (rI2 (fun _ _ => true) z) := by
  intro pins s σ H x y v u Q I rx ry q
  obtain ⟨a, b, e1, e2, hg, q⟩ := q
  exact h pins s σ H x y v u Q I rx ry ⟨a, b, e1, e2, q⟩
def gMul (i j : Int) : Bool := decide (i.natAbs < 18446744073709551616) || decide (j.natAbs < 18446744073709551616)
def gDiv (_ j : Int) : Bool := decide (0 < j) && decide (j.natAbs < 1073741824)
def gMod (_ j : Int) : Bool := decide (0 < j)
def gPow (i j : Int) : Bool := decide (0 ≤ j) && decide (j.natAbs ≤ 1000000) && decide (i.natAbs < 18446744073709551616)
def vSub := vI2 (fun _ _ => true) fun i j => i - j
def vDiv := vI2 gDiv fun i j => i / j
def vMod := vI2 gMod fun i j => i % j
def vPow := vI2 gPow fun i j => i ^ j.toNat
def vShl := vI2 gPow fun i j => i * 2 ^ j.toNat
def vShr := vI2 (fun _ j => decide (0 ≤ j)) fun i j => i / 2 ^ j.toNat
def vBand := vI2 (fun _ _ => true) Builtin.bitAnd
def vBor := vI2 (fun _ _ => true) Builtin.bitOr
def vBxor := vI2 (fun _ _ => true) Builtin.bitXor
theorem op_subV : OpR X (binaryOp .Sub) (rI2 (fun _ _ => true) fun i j => i - j) := op_of0 op_sub
theorem op_divV : OpR X (binaryOp .FloorDiv) (rI2 gDiv fun i j => i / j) := op_of op_fdiv fun i j h => by unfold gDiv at h; simp at h; exact ⟨h.1, by omega⟩
theorem op_modV : OpR X (binaryOp .Mod) (rI2 gMod fun i j => i % j) := op_of op_mod fun i j h => by unfold gMod at h; simp at h; exact h
theorem op_powV : OpR X (binaryOp .Pow) (rI2 gPow fun i j => i ^ j.toNat) := op_of op_pow fun i j h => by unfold gPow at h; simp at h; exact ⟨h.1.1, by omega, h.2⟩
theorem op_shlV : OpR X (binaryOp .LShift) (rI2 gPow fun i j => i * 2 ^ j.toNat) := op_of op_shl fun i j h => by unfold gPow at h; simp at h; exact ⟨h.1.1, by omega, h.2⟩
theorem op_shrV : OpR X (binaryOp .RShift) (rI2 (fun _ j => decide (0 ≤ j)) fun i j => i / 2 ^ j.toNat) := op_of op_shr fun i j h => by simpa using h
theorem op_bandV : OpR X (binaryOp .BitAnd) (rI2 (fun _ _ => true) Builtin.bitAnd) := op_of0 op_and
theorem op_borV : OpR X (binaryOp .BitOr) (rI2 (fun _ _ => true) Builtin.bitOr) := op_of0 op_or
theorem op_bxorV : OpR X (binaryOp .BitXor) (rI2 (fun _ _ => true) Builtin.bitXor) := op_of0 op_xor
/-- int * int, list * int, tuple * int -/
def repL (k : Int) (xs : List Va) : List Va := (List.replicate k.toNat xs).flatten
def vMul : Va → Va → Cv → Re Va
  | .int i, .int j, c => if gMul i j then .ok (.int (i * j)) c else .stk
  | .lst xs, .int k, c => if decide (k.natAbs < 9223372036854775808) && decide (xs.length * k.toNat ≤ L24) then .ok (.lst (repL k xs)) c else .stk
  | .tup xs, .int k, c => if xs.length != 0 && decide (2 ≤ k) && decide (k ≤ 1000) && decide (xs.length ≤ 1000) then .ok (.tup (repL k xs)) c else .stk
  | _, _, _ => .stk
def rMulV (K : PySem.W.Frag) : R2 := fun x y H Q => (rI2 gMul (fun i j => i * j) x y H Q ∨ rRep x y H Q) ∨ rRepT K x y H Q
theorem op_mulV : OpR X (binaryOp .Mult) (rMulV X.K) := ((op_of (C := CMul) op_mul fun i j h => by unfold gMul at h; simp at h; unfold CMul; omega).or op_rep).or op_repT
theorem RepL.rep {K : PySem.W.Frag} {mg : Str → Option Value} {c : Option Addr} {xs : List V} {ds : List Va} (r : RepL K mg c H xs ds) : ∀ k : Nat, RepL K mg c H (List.replicate k xs).flatten (List.replicate k ds).flatten
  | 0 => .nil
  | k + 1 => by rw [List.replicate_succ, List.replicate_succ, List.flatten_cons, List.flatten_cons]; exact r.append (RepL.rep r k)
theorem ov_mul : OpV X T W (rMulV X.K) vMul := by
  intro g σ H env cv x y a b Q S rx ry r
  unfold vMul at r
  split at r
  · split at r
    · cases rx; cases ry; exact .inl (.inl ⟨_, _, rfl, rfl, ‹_›, r H (Po.refl S) _ (.int _)⟩)
    · exact r.elim
  · split at r
    · rename_i h
      simp only [Bool.and_eq_true, decide_eq_true_eq] at h
      obtain ⟨a1, xs1, rfl, _, h1, r1⟩ := rx
      cases ry
      have e1 := r1.length
      refine .inl (.inr ⟨_, _, _, rfl, rfl, h1, by omega, by omega, by rw [← l24, e1]; exact h.2, fun p n => ?_⟩)
      exact r _ (Po.new S n fun _ z => by cases z) _ (.lst (hid_of (S.newM n) upd_same) (RepL.mono (Po.le S (Po.new S n fun _ z => by cases z)) (r1.rep _)))
    · exact r.elim
  · split at r
    · rename_i h
      simp only [Bool.and_eq_true, decide_eq_true_eq, bne_iff_ne, ne_eq] at h
      cases ry
      cases rx with
      | tup hx rx =>
        have e1 := rx.length
        refine .inr ⟨_, _, _, rfl, rfl, SqT.of (hid_some hx).2, fun z => h.1.1.1 (by rw [← e1, z]; rfl), h.1.1.2, h.1.2, by omega, fun p n => ?_⟩
        exact r _ (Po.new S n fun _ z => by cases z) _ (.tup (hid_of (S.newM n) upd_same) (RepL.mono (Po.le S (Po.new S n fun _ z => by cases z)) (rx.rep _)))
    · exact r.elim
  · exact r.elim
def vMulL : Va → Va → Cv → Re Va
  | .lst xs, .int k, c => if decide (k.natAbs < 9223372036854775808) && decide (xs.length * k.toNat ≤ L24) then .ok (.lst (repL k xs)) c else .stk
  | _, _, _ => .stk
theorem of_rep : OpF X T W rRep vMulL := by
  intro g σ H H0 env cv x y a b Q S h0 rx ry r
  unfold vMulL at r
  split at r
  · split at r
    · rename_i h
      simp only [Bool.and_eq_true, decide_eq_true_eq] at h
      obtain ⟨a1, xs1, rfl, _, h1, r1⟩ := rx
      cases ry
      have e1 := r1.length
      refine ⟨_, _, _, rfl, rfl, h1, by omega, by omega, by rw [← l24, e1]; exact h.2, fun p n => ?_⟩
      exact r _ (Po.new S n fun _ z => by cases z) p (h0 p n) ⟨_, upd_same, RepL.mono (le_new S n) (r1.rep _)⟩
    · exact r.elim
  · exact r.elim
/-- -a, ~a -/
def vNeg : Va → Cv → Re Va
  | .int i, c => .ok (.int (-i)) c
  | _, _ => .stk
def vInv : Va → Cv → Re Va
  | .int i, c => .ok (.int (Builtin.bitNot i)) c
  | _, _ => .stk
end
section
variable {X : Cx} {T : Gt} {W : WX} {e a b : Expr} {f h : SE} {pos : Pos}
theorem re_neg (ha : RB X T W a f) : RE X T W (.UnaryOp .USub a pos) (eB1 f vNeg) :=
  pe_imp (pe_un un_neg ha) fun σ H Q ⟨g, env, cv, S, r⟩ => one S r fun a c1 H1 x S1 _ rx q => by
    unfold vNeg at q
    split at q
    · cases rx; exact ⟨_, rfl, q H1 (Po.refl S1) _ (.int _)⟩
    · exact q.elim
theorem re_inv (ha : RB X T W a f) : RE X T W (.UnaryOp .Invert a pos) (eB1 f vInv) :=
  pe_imp (pe_un un_inv ha) fun σ H Q ⟨g, env, cv, S, r⟩ => one S r fun a c1 H1 x S1 _ rx q => by
    unfold vInv at q
    split at q
    · cases rx; exact ⟨_, rfl, q H1 (Po.refl S1) _ (.int _)⟩
    · exact q.elim
end
end G

set_option Elab.async false
set_option linter.all false
set_option maxRecDepth 100000
set_option maxHeartbeats 2000000
namespace G
set_option autoImplicit false
open PySem PySem.Spec PyProof.Rows L2

/-! ### keys -/
mutual
def keq : Va → Va → Bool
  | .int i, .int j => decide (i = j)
  | .str s, .str t => decide (s = t)
  | .tup xs, .tup ys => keqs xs ys
  | _, _ => false
def keqs : List Va → List Va → Bool
  | [], [] => true
  | x :: xs, y :: ys => keq x y && keqs xs ys
  | _, _ => false
end
def dGet : List Va → List Va → Va → Option Va
  | k :: ks, v :: vs, j => if keq k j then some v else dGet ks vs j
  | _, _, _ => none
def dPut : List Va → List Va → Va → Va → List Va × List Va
  | k :: ks, v :: vs, j, w => if keq k j then (k :: ks, w :: vs) else let r := dPut ks vs j w; (k :: r.1, v :: r.2)
  | _, _, j, w => ([j], [w])
def kOf : Va → Option Key
  | .int i => some (.inl i)
  | .str s => some (.inr s)
  | _ => none
def ksOf : List Va → Option (List Key)
  | [] => some []
  | d :: r => match kOf d, ksOf r with
    | some k, some ks => some (k :: ks)
    | _, _ => none
/-- a key of that kind -/
def isKey : Bool → Va → Bool
  | false, d => (kOf d).isSome
  | true, .tup ds => (ksOf ds).isSome
  | _, _ => false
theorem kOf_eq : ∀ {d : Va} {k : Key}, kOf d = some k → d = kVa k
  | .int _, _, h => by cases h; rfl
  | .str _, _, h => by cases h; rfl
  | .non, _, h => by cases h
  | .bl _, _, h => by cases h
  | .tup _, _, h => by cases h
  | .lst _, _, h => by cases h
  | .dic _ _ _, _, h => by cases h
  | .fn _, _, h => by cases h
  | .cup, _, h => by cases h
  | .scr _, _, h => by cases h
theorem ksOf_eq : ∀ {ds : List Va} {ks : List Key}, ksOf ds = some ks → ds = ks.map kVa
  | [], _, h => by cases h; rfl
  | d :: r, ks, h => by
    unfold ksOf at h
    split at h
    · rename_i k ks' h1 h2
      cases h
      rw [kOf_eq h1, ksOf_eq h2]; rfl
    · cases h
theorem keq_k (a b : Key) : keq (kVa a) (kVa b) = decide (a = b) := by
  cases a <;> cases b <;> simp [kVa, keq]
theorem keqs_k : ∀ a b : List Key, keqs (a.map kVa) (b.map kVa) = decide (a = b)
  | [], [] => by simp [keqs]
  | [], _ :: _ => by simp [keqs]
  | _ :: _, [] => by simp [keqs]
  | a :: as, b :: bs => by
    rw [List.map_cons, List.map_cons, keqs, keq_k, keqs_k as bs]
    by_cases h : a = b <;> by_cases h2 : as = bs <;> simp [h, h2]
theorem keq_t (a b : List Key) : keq (.tup (a.map kVa)) (.tup (b.map kVa)) = decide (a = b) := by rw [keq, keqs_k]
section
variable {κ : Type} [DecidableEq κ] {K : PySem.W.Frag} {mg : Str → Option Value} {c : Option Addr} {H : Hp} {enc : κ → Va}
/-- what stands at a key, on both sides -/
theorem dget_rep (he : ∀ a b, keq (enc a) (enc b) = decide (a = b)) (k : κ) : ∀ {kvs : List (κ × V)} {vs : List Va}, RepL K mg c H (kvs.map (·.2)) vs →
    match valV kvs k, dGet (kvs.map fun p => enc p.1) vs (enc k) with
    | some v, some d => Rep K mg c H v d
    | none, none => True
    | _, _ => False
  | [], _, r => by cases r; simp [valV, dGet]
  | p :: kvs, _, r => by
    cases r with
    | cons a r =>
      rw [List.map_cons, dGet, he]
      by_cases h : p.1 = k
      · rw [valV_pos h, decide_eq_true h, if_pos rfl]; exact a
      · rw [valV_neg h, decide_eq_false h, if_neg Bool.false_ne_true]; exact dget_rep he k r
theorem putK_cons (p : κ × V) (kvs : List (κ × V)) (k : κ) (y : V) (nd : ¬ p.1 = k) : putK (p :: kvs) k y = p :: putK kvs k y := by
  unfold putK
  rw [List.any_cons, decide_eq_false nd, Bool.false_or]
  split
  · rw [List.map_cons, if_neg nd]
  · rfl
theorem putK_hd (p : κ × V) (kvs : List (κ × V)) (k : κ) (y : V) (e : p.1 = k) (nd : ∀ q ∈ kvs, q.1 ≠ k) : putK (p :: kvs) k y = (k, y) :: kvs := by
  unfold putK
  rw [List.any_cons, decide_eq_true e, Bool.true_or, if_pos rfl, List.map_cons, if_pos e]
  have this : ∀ l : List (κ × V), (∀ q ∈ l, q.1 ≠ k) → (l.map fun kv => if kv.1 = k then (kv.1, y) else kv) = l := by
    intro l
    induction l with
    | nil => intro _; rfl
    | cons a l ih => intro h; rw [List.map_cons, if_neg (h a List.mem_cons_self), ih fun q hq => h q (List.mem_cons_of_mem _ hq)]
  rw [this kvs nd, e]
theorem dput_rep (he : ∀ a b, keq (enc a) (enc b) = decide (a = b)) (k : κ) {y : V} {d : Va} (ry : Rep K mg c H y d) : ∀ {kvs : List (κ × V)} {vs : List Va}, (kvs.map (·.1)).Nodup → RepL K mg c H (kvs.map (·.2)) vs →
    (dPut (kvs.map fun p => enc p.1) vs (enc k) d).1 = (putK kvs k y).map (fun p => enc p.1) ∧ RepL K mg c H ((putK kvs k y).map (·.2)) (dPut (kvs.map fun p => enc p.1) vs (enc k) d).2
  | [], _, _, r => by
    cases r
    exact ⟨rfl, .cons ry .nil⟩
  | p :: kvs, _, nd, r => by
    cases r with
    | cons a r =>
      rw [List.map_cons, List.nodup_cons] at nd
      rw [List.map_cons, dPut, he]
      by_cases h : p.1 = k
      · rw [putK_hd p kvs k y h fun q hq z => nd.1 (by rw [h, ← z]; exact List.mem_map.mpr ⟨q, hq, rfl⟩), decide_eq_true h, if_pos rfl]
        exact ⟨by rw [List.map_cons, h], .cons ry r⟩
      · obtain ⟨h1, h2⟩ := dput_rep he k ry nd.2 r
        rw [putK_cons p kvs k y h, decide_eq_false h, if_neg Bool.false_ne_true]
        exact ⟨by rw [List.map_cons, ← h1], .cons a h2⟩
end
section
variable {X : Cx} {T : Gt} {W : WX} {Γ : Gx} {g : Gh} {σ : St} {H H' : Hp} {env : Ev} {cv : Cv} {x y : V} {d a b : Va} {n : Nat}
theorem m_some {P : V → Va → Prop} {o : Option V} {r : Option Va} (m : match o, r with
    | some v, some d => P v d
    | none, none => True
    | _, _ => False) : o.isSome = r.isSome := by
  cases o <;> cases r <;> first | rfl | exact m.elim
/-- d[y] by what the dict holds -/
theorem dget_ok {t : Bool} {ks vs : List Va} {j : Va} (S : SR Γ g σ H env cv) (rx : RepB Γ g (hid H (Mt g σ env)) H x (.dic t ks vs)) (ry : RepB Γ g (hid H (Mt g σ env)) H y j) (hk : isKey t j = true) :
    ∃ a o, x = .ref a ∧ DGet H a y o ∧ match o, dGet ks vs j with
      | some v, some d => RepA Γ g (hid H (Mt g σ env)) v d
      | none, none => True
      | _, _ => False := by
  cases t with
  | false =>
    obtain ⟨a, rfl, _, kvs, h1, rfl, h3⟩ := rx
    unfold isKey at hk
    obtain ⟨k, ek⟩ := Option.isSome_iff_exists.mp hk
    have e := kOf_eq ek
    subst e
    refine ⟨a, valV kvs k, rfl, .inl ⟨kvs, k, h1, ?_, rfl⟩, dget_rep keq_k k h3⟩
    cases k <;> (cases ry; rfl)
  | true =>
    obtain ⟨a, rfl, _, kvs, h1, rfl, h3⟩ := rx
    unfold isKey at hk
    split at hk
    · rename_i q
      cases q
    · rename_i ds _
      obtain ⟨k, ek⟩ := Option.isSome_iff_exists.mp hk
      have e := ksOf_eq ek
      subst e
      cases ry with
      | tup hb rb =>
        refine ⟨a, valV kvs k, rfl, .inr ⟨kvs, k, _, h1, rfl, ?_, rfl⟩, dget_rep keq_t k h3⟩
        have key : ∀ {ks : List Key} {xs : List V}, RepLA Γ g (hid H (Mt g σ env)) xs (ks.map kVa) → xs = ks.map kV := by
          intro ks
          induction ks with
          | nil => intro xs r; cases r; rfl
          | cons k ks ih =>
            intro xs r
            cases r with
            | cons a r => rw [ih r]; cases k <;> (cases a; rfl)
        rw [← key rb]
        exact (hid_some hb).2
    · cases hk

/-! ### in -/
def vInB (neg : Bool) : Va → Va → Cv → Re Va
  | a, .lst ds, c => if wf 60 a && wfs 59 ds then .ok (.bl (neg.xor ((toPs ds).any fun y => y.eqv (toP a)))) c else .stk
  | a, .tup ds, c => if wf 60 a && wfs 59 ds then .ok (.bl (neg.xor ((toPs ds).any fun y => y.eqv (toP a)))) c else .stk
  | .str i, .str j, c => .ok (.bl (neg.xor (!(Builtin.Str.occurrences j i 0 j.length 1).isEmpty))) c
  | a, .dic t ks vs, c => if isKey t a then .ok (.bl (neg.xor (dGet ks vs a).isSome)) c else .stk
  | _, _, _ => .stk
def vIn := vInB false
def vNotIn := vInB true
def rInS (X : Cx) (neg : Bool) : R2 := fun x y H Q => ∃ da ds, Dp X.K H x da ∧ (Dp X.K H y (.list ds) ∨ Dp X.K H y (.tuple ds)) ∧ da.plain = true ∧ PyData.plainAll ds = true ∧ da.depth ≤ 60 ∧ Q (.bl (neg.xor (ds.any fun z => z.eqv da))) H
theorem op_inS (j : JX X W) : OpR X (compareOp .In) (rInS X false) := by
  intro pins s σ H x y v u Q I rx ry h
  obtain ⟨da, ds, h1, h2, p1, p2, hd, q⟩ := h
  have hu := j.hu
  obtain ⟨as, r1⟩ := Dp.reads I da x v h1 rx
  rcases h2 with h2 | h2
  · obtain ⟨bs, r2⟩ := Dp.reads I _ y u h2 ry
    exact PySem.SeqAt.in_list_data r2 r1 p2 p1 (by omega) (fin_bl I q (by simp))
  · obtain ⟨bs, r2⟩ := Dp.reads I _ y u h2 ry
    exact PySem.SeqAt.in_tuple_data r2 r1 p2 p1 (by omega) (fin_bl I q (by simp))
theorem op_notInS (j : JX X W) : OpR X (compareOp .NotIn) (rInS X true) := by
  intro pins s σ H x y v u Q I rx ry h
  obtain ⟨da, ds, h1, h2, p1, p2, hd, q⟩ := h
  have hu := j.hu
  obtain ⟨as, r1⟩ := Dp.reads I da x v h1 rx
  rcases h2 with h2 | h2
  · obtain ⟨bs, r2⟩ := Dp.reads I _ y u h2 ry
    exact PySem.SeqAt.notIn_list_data r2 r1 p2 p1 (by omega) (fin_bl I q (by simp))
  · obtain ⟨bs, r2⟩ := Dp.reads I _ y u h2 ry
    exact PySem.SeqAt.notIn_tuple_data r2 r1 p2 p1 (by omega) (fin_bl I q (by simp))
def rInD' (neg : Bool) : R2 := fun y x H Q => ∃ a o, x = .ref a ∧ DGet H a y o ∧ Q (.bl (neg.xor o.isSome)) H
theorem op_inD' (j : JX X W) : OpR X (compareOp .In) (rInD' false) := by
  intro pins s σ H y x u v Q I ry rx h
  obtain ⟨a, o, rfl, g, q⟩ := h
  cases rx
  exact d_in (by have := j.hu; omega) I g ry fun s' I' => fin_bl I' q (by simp)
theorem op_notInD' (j : JX X W) : OpR X (compareOp .NotIn) (rInD' true) := by
  intro pins s σ H y x u v Q I ry rx h
  obtain ⟨a, o, rfl, g, q⟩ := h
  cases rx
  exact d_notIn (by have := j.hu; omega) I g ry fun s' I' => fin_bl I' q (by simp)
def rInV (X : Cx) (neg : Bool) : R2 := fun x y H Q => (rInS X neg x y H Q ∨ rInD' neg x y H Q) ∨ ∃ i j, x = .str i ∧ y = .str j ∧ Q (.bl (neg.xor (!(Builtin.Str.occurrences j i 0 j.length 1).isEmpty))) H
theorem op_inV (j : JX X W) : OpR X (compareOp .In) (rInV X false) := ((op_inS j).or (op_inD' j)).or (by
  intro pins s σ H x y v u Q I rx ry h
  obtain ⟨a, b, e1, e2, q⟩ := h
  exact op_in_str pins s σ H x y v u Q I rx ry ⟨a, b, e1, e2, by simpa using q⟩)
theorem op_notInV (j : JX X W) : OpR X (compareOp .NotIn) (rInV X true) := ((op_notInS j).or (op_notInD' j)).or (by
  intro pins s σ H x y v u Q I rx ry h
  obtain ⟨a, b, e1, e2, q⟩ := h
  exact op_notin_str pins s σ H x y v u Q I rx ry ⟨a, b, e1, e2, by simpa using q⟩)
theorem ov_in {neg : Bool} : OpV X T W (rInV X neg) (vInB neg) := by
  intro g σ H env cv x y a b Q S rx ry r
  unfold vInB at r
  split at r
  · rename_i ds
    split at r
    · rename_i h
      rw [Bool.and_eq_true] at h
      obtain ⟨p1, d1⟩ := wf_plain _ _ h.1
      obtain ⟨p2, d2⟩ := wfs_plain _ _ h.2
      have e := RepB.dp (n := 60) (d := .lst ds) (by rw [wf]; exact h.2) ry
      rw [toP] at e
      exact .inl (.inl ⟨_, _, RepB.dp h.1 rx, .inl e, p1, p2, d1, r H (Po.refl S) _ (.bl _)⟩)
    · exact r.elim
  · rename_i ds
    split at r
    · rename_i h
      rw [Bool.and_eq_true] at h
      obtain ⟨p1, d1⟩ := wf_plain _ _ h.1
      obtain ⟨p2, d2⟩ := wfs_plain _ _ h.2
      have e := RepB.dp (n := 60) (d := .tup ds) (by rw [wf]; exact h.2) ry
      rw [toP] at e
      exact .inl (.inl ⟨_, _, RepB.dp h.1 rx, .inr e, p1, p2, d1, r H (Po.refl S) _ (.bl _)⟩)
    · exact r.elim
  · cases rx; cases ry
    exact .inr ⟨_, _, rfl, rfl, r H (Po.refl S) _ (.bl _)⟩
  · split at r
    · rename_i h
      obtain ⟨a, o, e, gt, m⟩ := dget_ok S ry rx h
      refine .inl (.inr ⟨a, o, e, gt, ?_⟩)
      rw [m_some m]
      exact r H (Po.refl S) _ (.bl _)
    · exact r.elim
  · exact r.elim

/-! ### subscripts -/
def vIx : Va → Va → Cv → Re Va
  | .lst ds, .int i, c => match atI ds i with
    | some d => .ok d c
    | none => .stk
  | .tup ds, .int i, c => match atI ds i with
    | some d => .ok d c
    | none => .stk
  | .str s, .int i, c => if s.length ≤ L24 then (match atI s.cps.toList i with
    | some q => .ok (.str ⟨#[q]⟩) c
    | none => .stk) else .stk
  | .dic t ks vs, k, c => if isKey t k then (match dGet ks vs k with
    | some d => .ok d c
    | none => .stk) else .stk
  | .cup, .int i, c => match c with
    | some (a, b) => if i = 0 then .ok (.int a) c else if i = 1 then .ok (.int b) c else .stk
    | none => .stk
  | _, _, _ => .stk
def rIxD : R2 := fun x y H Q => ∃ a v, x = .ref a ∧ DGet H a y (some v) ∧ Q v H
theorem ix_dict (j : JX X W) : IxR X rIxD := by
  intro value slice pins s σ H x y v u Q I rx ry h hs
  obtain ⟨a, w, rfl, g, q⟩ := h
  cases rx
  exact tail_any (dict_typeIs I g) PySem.F.slot_dict_getitem.lookup (d_getItem (by have := j.hu; omega) I g ry fun w' s3 I3 rw' => ⟨w, H, I3, rw', q⟩) hs
def rIxV (K : PySem.W.Frag) : R2 := fun x y H Q => rIx K x y H Q ∨ rIxD x y H Q
theorem ix_v (j : JX X W) : IxR X (rIxV X.K) := ix_seq.or (ix_dict j)
theorem atI_rep {K : PySem.W.Frag} {mg : Str → Option Value} {c : Option Addr} {xs : List V} {ds : List Va} {i : Int} {d : Va} (r : RepL K mg c H xs ds) (h : atI ds i = some d) : ∃ v, atI xs i = some v ∧ Rep K mg c H v d := by
  unfold atI at h ⊢
  rw [r.length]
  cases e : ixN ds.length i with
  | none => rw [e] at h; cases h
  | some j =>
    rw [e] at h
    exact r.get' h
theorem ov_ix : OpV X T W (rIxV X.K) vIx := by
  intro g σ H env cv x y a b Q S rx ry r
  unfold vIx at r
  split at r
  · split at r
    · rename_i d h
      obtain ⟨p, xs, rfl, _, h1, r1⟩ := rx
      cases ry
      obtain ⟨v, e, rv⟩ := atI_rep r1 h
      exact .inl (.inl ⟨_, _, _, v, rfl, rfl, SqL.of h1, e, r H (Po.refl S) _ rv⟩)
    · exact r.elim
  · split at r
    · rename_i d h
      cases ry
      cases rx with
      | tup h1 r1 =>
        obtain ⟨v, e, rv⟩ := atI_rep r1 h
        exact .inl (.inr (.inl ⟨_, _, _, v, rfl, rfl, SqT.of (hid_some h1).2, e, r H (Po.refl S) _ rv⟩))
    · exact r.elim
  · split at r
    · rename_i h0
      split at r
      · rename_i q h
        cases rx; cases ry
        exact .inl (.inr (.inr ⟨_, _, q, rfl, rfl, by rw [← l24]; exact h0, h, r H (Po.refl S) _ (.str _)⟩))
      · exact r.elim
    · exact r.elim
  · split at r
    · rename_i h
      split at r
      · rename_i d hd
        obtain ⟨a, o, e, gt, m⟩ := dget_ok S rx ry h
        rw [hd] at m
        cases o with
        | none => exact m.elim
        | some v => exact .inr ⟨a, v, e, gt, r H (Po.refl S) _ m⟩
      · exact r.elim
    · exact r.elim
  · rename_i i c
    split at r
    · rename_i a1 b1
      cases ry
      cases rx with
      | cup hc =>
        have cst := S.cst
        rw [hc] at cst
        have cst : H _ = some (.lst [.int a1, .int b1]) := cst
        split at r
        · rename_i e0
          subst e0
          exact .inl (.inl ⟨_, _, _, .int a1, rfl, rfl, SqL.of cst, rfl, r H (Po.refl S) _ (.int _)⟩)
        · split at r
          · rename_i e1
            subst e1
            exact .inl (.inl ⟨_, _, _, .int b1, rfl, rfl, SqL.of cst, rfl, r H (Po.refl S) _ (.int _)⟩)
          · exact r.elim
    · exact r.elim
  · exact r.elim
end
section
variable {X : Cx} {T : Gt} {W : WX} {e a b : Expr} {es : List Expr} {f h : SE} {fa : SA} {pos : Pos}
theorem re_ix (j : JX X W) (ha : RB X T W a f) (hb : RB X T W b h) (hs : PlainIx b := by intro _ _; rfl) : RE X T W (.Subscript a b pos) (eB2 f h vIx) :=
  pe_imp (pe_ix (ix_v j) ha hb hs) fun σ H Q ⟨g, env, cv, S, r⟩ => two S r fun a b c2 H2 x y S2 _ rx ry q => ov_ix g σ H2 env c2 x y a b Q S2 rx ry q
/-! ### argument lists, displays -/
def aNil : SA := fun _ c => .ok [] c
def aCons (f : SE) (fa : SA) : SA := fun env c => (f env c).bind fun d c1 => (fa env c1).bind fun ds c2 => .ok (d :: ds) c2
theorem ra_nil : RA X T W [] aNil := pa_imp pa_nil fun σ H Q ⟨g, env, cv, S, r⟩ => r H (Po.refl S) [] .nil
theorem ra_cons (he : RE X T W e f) (hr : RA X T W es fa) (hs : starEach (e :: es) X.env = (false, eval e X.env) :: starEach es X.env := by rfl) : RA X T W (e :: es) (aCons f fa) :=
  pa_imp (pa_cons he hr hs) fun σ H Q ⟨g, env, cv, S, r⟩ => ⟨g, env, cv, S, r.bnd.mono fun d c1 H1 p q x rx => ⟨g, env, c1, S.after p, q.2.bnd.mono fun ds c2 H2 p2 q2 xs rxs =>
    q2.2 H2 (Po.refl ((S.after p).after p2)) (x :: xs) (.cons (rx.mono (p2.le (S.after p))) rxs)⟩⟩
def eTup (fa : SA) : SE := fun env c => (fa env c).bind fun ds c1 => if ds.length ≤ L24 then .ok (.tup ds) c1 else .stk
def eLst (fa : SA) : SE := fun env c => (fa env c).bind fun ds c1 => if ds.length ≤ L24 then .ok (.lst ds) c1 else .stk
theorem re_tup {x1} (ha : RA X T W es fa) : RE X T W (.Tuple es x1 pos) (eTup fa) :=
  pe_imp (pe_tup ha) fun σ H Q ⟨g, env, cv, S, r⟩ => ⟨g, env, cv, S, r.bnd.mono fun ds c1 H1 p q xs rxs => by
    have q2 := q.2
    split at q2
    · rename_i hl
      have S1 := S.after p
      refine ⟨by rw [← l24, rxs.length]; exact hl, fun p1 n => q2 _ (Po.new S1 n fun _ z => by cases z) _ (.tup (hid_of (S1.newM n) upd_same) (rxs.mono (Po.le S1 (Po.new S1 n fun _ z => by cases z))))⟩
    · exact q2.elim⟩
theorem rf_lst (ha : RA X T W es fa) : RF X T W (.List es pos) (eLst fa) :=
  pe_imp (pe_lst ha) fun σ H Q ⟨g, env, cv, S, r⟩ => ⟨g, env, cv, S, r.bnd.mono fun ds c1 H1 p q xs rxs => by
    have q2 := q.2
    split at q2
    · rename_i hl
      have S1 := S.after p
      refine ⟨by rw [← l24, rxs.length]; exact hl, fun p1 n => q2 _ (Po.new S1 n fun _ z => by cases z) p1 (p.none p1 n) ⟨_, upd_same, rxs.mono (le_new S1 n)⟩⟩
    · exact q2.elim⟩

/-! ### slices -/
def oNone : Ev → Cv → Re (Option Int) := fun _ c => .ok none c
def oSome (f : SE) : Ev → Cv → Re (Option Int) := fun env c => (f env c).bind fun d c1 => match d with
  | .int i => .ok (some i) c1
  | _ => .stk
def TO' (Γ : Gx) (W : WX) (f : Ev → Cv → Re (Option Int)) : TO := fun σ H Q => ∃ g env cv, SR Γ g σ H env cv ∧ ROut Γ W g σ H (fun o _ H' => Q o H') (f env cv)
def RO (X : Cx) (T : Gt) (W : WX) (e : Option Expr) (f : Ev → Cv → Re (Option Int)) : Prop := PO X e (TO' (gx X T) W f)
theorem po_imp {X : Cx} {e : Option Expr} {t t' : TO} (h : PO X e t) (i : ∀ σ H Q, t' σ H Q → t σ H Q) : PO X e t' := ⟨fun pins s σ H Q I q => h.run pins s σ H Q I (i σ H Q q)⟩
theorem ro_none : RO X T W none oNone := po_imp po_none fun σ H Q ⟨g, env, cv, S, r⟩ => r H (Po.refl S)
theorem ro_some (he : RE X T W e f) : RO X T W (some e) (oSome f) := po_imp (po_some he) fun σ H Q ⟨g, env, cv, S, r⟩ => ⟨g, env, cv, S, r.bnd.mono fun d c1 H1 p q x rx => by
  have q2 := q.2
  split at q2
  · cases rx
    exact ⟨_, rfl, q2 H1 (Po.refl (S.after p))⟩
  · exact q2.elim⟩
def cutA {α : Type} (xs : List α) (lo hi : Option Int) : List α := (xs.drop (HT.sIx xs.length 0 lo)).take (HT.sIx xs.length xs.length hi - HT.sIx xs.length 0 lo)
def vSl : Va → Option Int → Option Int → Cv → Re Va
  | .lst ds, lo, hi, c => .ok (.lst (cutA ds lo hi)) c
  | .tup ds, lo, hi, c => .ok (.tup (cutA ds lo hi)) c
  | .str s, lo, hi, c => if s.length ≤ L24 then .ok (.str (cutS s lo hi)) c else .stk
  | _, _, _, _ => .stk
def vSlL : Va → Option Int → Option Int → Cv → Re Va
  | .lst ds, lo, hi, c => .ok (.lst (cutA ds lo hi)) c
  | _, _, _, _ => .stk
def eSl (f : SE) (lo hi : Ev → Cv → Re (Option Int)) (k : Va → Option Int → Option Int → Cv → Re Va) : SE := fun env c => (f env c).bind fun d c1 => (lo env c1).bind fun l c2 => (hi env c2).bind fun u c3 => k d l u c3
def rSlV (K : PySem.W.Frag) : V → Option Int → Option Int → Hp → VK → Prop := fun x lo hi H Q => (rSlL K x lo hi H Q ∨ rSlA K x lo hi H Q) ∨ rSlS x lo hi H Q
theorem sl_v : SlR X (rSlV X.K) := (sl_list.or sl_tupA).or sl_str
theorem cut_rep {K : PySem.W.Frag} {mg : Str → Option Value} {c : Option Addr} {H : Hp} {xs : List V} {ds : List Va} {lo hi : Option Int} (r : RepL K mg c H xs ds) : RepL K mg c H (cutV xs lo hi) (cutA ds lo hi) := by
  unfold cutV cutA
  rw [r.length]
  exact (r.drop _).take _
theorem cut_whole {α : Type} {xs : List α} {lo hi : Option Int} (h : HT.sIx xs.length 0 lo = 0 ∧ HT.sIx xs.length xs.length hi = xs.length) : cutA xs lo hi = xs := by
  unfold cutA
  rw [h.1, h.2]; simp
theorem three {g : Gh} {σ : St} {H : Hp} {env : Ev} {cv : Cv} {P : Va → Cv → Hp → Prop} {lo hi : Ev → Cv → Re (Option Int)} {k : Va → Option Int → Option Int → Cv → Re Va} (S : SR (gx X T) g σ H env cv) {R : V → Option Int → Option Int → Hp → Prop}
    (r : ROut (gx X T) W g σ H P (eSl f lo hi k env cv)) (i : ∀ a l u c2 H2 x, SR (gx X T) g σ H2 env c2 → Po (gx X T) g H H2 c2 → RepB (gx X T) g (hid H2 (Mt g σ env)) H2 x a → ROut (gx X T) W g σ H2 P (k a l u c2) → R x l u H2) :
    TDb (gx X T) W f σ H fun x H1 => TO' (gx X T) W lo σ H1 fun l H2 => TO' (gx X T) W hi σ H2 fun u H3 => R x l u H3 :=
  ⟨g, env, cv, S, r.bnd.mono fun a c1 H1 p q x rx => ⟨g, env, c1, S.after p, q.2.bnd.mono fun l c2 H2 p2 q2 => ⟨g, env, c2, (S.after p).after p2, q2.2.bnd.mono fun u c3 H3 p3 q3 =>
    i a l u c3 H3 x (((S.after p).after p2).after p3) ((p.trans p2).trans p3) ((rx.after (S.after p) p2).after ((S.after p).after p2) p3) q3.2⟩⟩⟩
theorem re_sl {lo hi : Option Expr} {fl fu : Ev → Cv → Re (Option Int)} {p2 : Pos} (he : RB X T W e f) (hl : RO X T W lo fl) (hu : RO X T W hi fu) : RE X T W (.Subscript e (.Slice lo hi none p2) pos) (eSl f fl fu vSl) :=
  pe_imp (pe_slice sl_v he hl hu) fun σ H Q ⟨g, env, cv, S, r⟩ => three S r fun a l u c2 H2 x S2 p rx q => by
    unfold vSl at q
    split at q
    · obtain ⟨a1, xs1, rfl, _, h1, r1⟩ := rx
      exact .inl (.inl ⟨a1, xs1, rfl, SqL.of h1, fun p n => q _ (Po.new S2 n fun _ z => by cases z) _ (.lst (hid_of (S2.newM n) upd_same) (RepL.mono (Po.le S2 (Po.new S2 n fun _ z => by cases z)) (cut_rep r1)))⟩)
    · rename_i ds
      cases rx with
      | tup h1 r1 =>
        refine .inl (.inr ⟨_, _, rfl, SqT.of (hid_some h1).2, fun z => ?_, fun _ p n => q _ (Po.new S2 n fun _ z => by cases z) _ (.tup (hid_of (S2.newM n) upd_same) (RepL.mono (Po.le S2 (Po.new S2 n fun _ z => by cases z)) (cut_rep r1)))⟩)
        rw [r1.length] at z
        rw [cut_whole z] at q
        exact q H2 (Po.refl S2) _ (.tup h1 r1)
    · split at q
      · rename_i hl
        cases rx
        exact .inr ⟨_, rfl, by rw [← l24]; exact hl, q H2 (Po.refl S2) _ (.str _)⟩
      · exact q.elim
    · exact q.elim
theorem rf_sl {lo hi : Option Expr} {fl fu : Ev → Cv → Re (Option Int)} {p2 : Pos} (he : RB X T W e f) (hl : RO X T W lo fl) (hu : RO X T W hi fu) : RF X T W (.Subscript e (.Slice lo hi none p2) pos) (eSl f fl fu vSlL) :=
  pe_imp (pe_slice sl_list he hl hu) fun σ H Q ⟨g, env, cv, S, r⟩ => three S r fun a l u c2 H2 x S2 p rx q => by
    unfold vSlL at q
    split at q
    · obtain ⟨a1, xs1, rfl, _, h1, r1⟩ := rx
      exact ⟨a1, xs1, rfl, SqL.of h1, fun p1 n => q _ (Po.new S2 n fun _ z => by cases z) p1 (p.none p1 n) ⟨_, upd_same, RepL.mono (le_new S2 n) (cut_rep r1)⟩⟩
    · exact q.elim
end
end G

set_option Elab.async false
set_option linter.all false
set_option maxRecDepth 100000
set_option maxHeartbeats 2000000
namespace G
set_option autoImplicit false
open PySem PySem.Spec PyProof.Rows L2

/-! ### calls of built-ins with one value -/
def UnC (X : Cx) (T : Gt) (W : WX) (r : List V → Hp → VK → Prop) (k : Va → Cv → Re Va) : Prop := UnV X T W (fun x H Q => r [x] H Q) k
def UnD (X : Cx) (T : Gt) (W : WX) (r : List V → Hp → VK → Prop) (k : Va → Cv → Re Va) : Prop := UnF X T W (fun x H Q => r [x] H Q) k
section
variable {X : Cx} {T : Gt} {W : WX} {e a b : Expr} {f h : SE} {p pos : Pos} {x : Str} {id : String} {r : List V → Hp → VK → Prop} {k : Va → Cv → Re Va}
theorem re_b1 (hc : CallR X (.builtin id) r) (hv : UnC X T W r k) (ha : RB X T W e f) (hm : X.mg x = none) (hb : bootBuiltins x = some (.builtin id) := by decide +kernel) (hg : Gl X x := by rfl) (hn : x ≠ "__name__" := by decide) (hdb : (x == ("__debug__" : Str)) = false := by decide)
    (he : starEach [e] X.env = (false, eval e X.env) :: starEach [] X.env := by rfl) (hpl : (backTo pos (starEach [] X.env)).any (·.1) = false := by rfl) : RE X T W (.Call (.Name x p) [e] [] pos) (eB1 f k) :=
  pe_imp (pe_callB hc hg hm hb (pa_cons ha pa_nil he) hn hdb he hpl) fun σ H Q ⟨g, env, cv, S, r⟩ => one S r fun a c1 H1 x S1 _ rx q => hv g σ H1 env c1 x a Q S1 rx q
theorem rf_b1 (hc : CallR X (.builtin id) r) (hv : UnD X T W r k) (ha : RB X T W e f) (hm : X.mg x = none) (hb : bootBuiltins x = some (.builtin id) := by decide +kernel) (hg : Gl X x := by rfl) (hn : x ≠ "__name__" := by decide) (hdb : (x == ("__debug__" : Str)) = false := by decide)
    (he : starEach [e] X.env = (false, eval e X.env) :: starEach [] X.env := by rfl) (hpl : (backTo pos (starEach [] X.env)).any (·.1) = false := by rfl) : RF X T W (.Call (.Name x p) [e] [] pos) (eB1 f k) :=
  pe_imp (pe_callB hc hg hm hb (pa_cons ha pa_nil he) hn hdb he hpl) fun σ H Q ⟨g, env, cv, S, r⟩ => one S r fun a c1 H1 x S1 p rx q => hv g σ H1 H env c1 x a Q S1 p.none rx q
theorem re_t1 (hc : CallR X (.type id) r) (hv : UnC X T W r k) (ha : RB X T W e f) (hm : X.mg x = none) (hb : bootBuiltins x = some (.type id) := by decide +kernel) (hg : Gl X x := by rfl) (hn : x ≠ "__name__" := by decide) (hdb : (x == ("__debug__" : Str)) = false := by decide)
    (he : starEach [e] X.env = (false, eval e X.env) :: starEach [] X.env := by rfl) (hpl : (backTo pos (starEach [] X.env)).any (·.1) = false := by rfl) : RE X T W (.Call (.Name x p) [e] [] pos) (eB1 f k) :=
  pe_imp (pe_callTy hc hg hm hb (pa_cons ha pa_nil he) hn hdb he hpl) fun σ H Q ⟨g, env, cv, S, r⟩ => one S r fun a c1 H1 x S1 _ rx q => hv g σ H1 env c1 x a Q S1 rx q
theorem rf_t1 (hc : CallR X (.type id) r) (hv : UnD X T W r k) (ha : RB X T W e f) (hm : X.mg x = none) (hb : bootBuiltins x = some (.type id) := by decide +kernel) (hg : Gl X x := by rfl) (hn : x ≠ "__name__" := by decide) (hdb : (x == ("__debug__" : Str)) = false := by decide)
    (he : starEach [e] X.env = (false, eval e X.env) :: starEach [] X.env := by rfl) (hpl : (backTo pos (starEach [] X.env)).any (·.1) = false := by rfl) : RF X T W (.Call (.Name x p) [e] [] pos) (eB1 f k) :=
  pe_imp (pe_callTy hc hg hm hb (pa_cons ha pa_nil he) hn hdb he hpl) fun σ H Q ⟨g, env, cv, S, r⟩ => one S r fun a c1 H1 x S1 p rx q => hv g σ H1 H env c1 x a Q S1 p.none rx q
/-- .. with two plain arguments (borrowed) -/
theorem re_b2 {k : Va → Va → Cv → Re Va} (hc : CallR X (.builtin id) r) (hv : OpV X T W (fun x y H Q => r [x, y] H Q) k) (ha : RB X T W a f) (hb' : RB X T W b h) (hm : X.mg x = none) (hb : bootBuiltins x = some (.builtin id) := by decide +kernel) (hg : Gl X x := by rfl) (hn : x ≠ "__name__" := by decide) (hdb : (x == ("__debug__" : Str)) = false := by decide)
    (he : starEach [a, b] X.env = (false, eval a X.env) :: starEach [b] X.env := by rfl) (he2 : starEach [b] X.env = (false, eval b X.env) :: starEach [] X.env := by rfl) (hpl : (backTo pos (starEach [b] X.env)).any (·.1) = false := by rfl) : RE X T W (.Call (.Name x p) [a, b] [] pos) (eB2 f h k) :=
  pe_imp (pe_callB hc hg hm hb (pa_cons ha (pa_cons hb' pa_nil he2) he) hn hdb he hpl) fun σ H Q ⟨g, env, cv, S, r⟩ => two S r fun a b c2 H2 x y S2 _ rx ry q => hv g σ H2 env c2 x y a b Q S2 rx ry q
end
section
variable {X : Cx} {T : Gt} {W : WX}
/-! len -/
def vLen : Va → Cv → Re Va
  | .str s, c => if s.length ≤ L24 then .ok (.int s.length) c else .stk
  | .lst ds, c => .ok (.int ds.length) c
  | .tup ds, c => .ok (.int ds.length) c
  | .dic false ks _, c => .ok (.int ks.length) c
  | _, _ => .stk
def rLenV (X : Cx) : List V → Hp → VK → Prop := fun xs H Q => (∃ x n, xs = [x] ∧ LenV X.K x H n ∧ Q (.int n) H) ∨ ∃ a kvs, xs = [.ref a] ∧ Rd H a (.dK kvs) ∧ Q (.int kvs.length) H
theorem call_lenV : CallR X (.builtin "len") (rLenV X) := call_len.or fun pins s σ H xs us Q I r h => by
  obtain ⟨a, kvs, rfl, e, q⟩ := h
  rw [Vals.ref1 r]
  exact d_len I e fun t s' I' => ⟨.int _, H, I', ⟨t, rfl⟩, q⟩
theorem uc_len : UnC X T W (rLenV X) vLen := by
  intro g σ H env cv x a Q S rx r
  unfold vLen at r
  split at r
  · split at r
    · cases rx; exact .inl ⟨_, _, rfl, ⟨by rw [← l24]; assumption, rfl⟩, r H (Po.refl S) _ (.int _)⟩
    · exact r.elim
  · obtain ⟨p, xs, rfl, _, h1, r1⟩ := rx
    refine .inl ⟨_, xs.length, rfl, .inl ⟨xs, SqL.of h1, rfl⟩, ?_⟩
    rw [r1.length]; exact r H (Po.refl S) _ (.int _)
  · cases rx with
    | tup h1 r1 =>
      refine .inl ⟨_, _, rfl, .inr ⟨_, SqT.of (hid_some h1).2, rfl⟩, ?_⟩
      rw [r1.length]; exact r H (Po.refl S) _ (.int _)
  · obtain ⟨p, rfl, _, kvs, h1, rfl, h3⟩ := rx
    refine .inr ⟨p, kvs, rfl, h1, ?_⟩
    rw [List.length_map] at r; exact r H (Po.refl S) _ (.int _)
  · exact r.elim
/-! abs, int, str -/
def vAbs : Va → Cv → Re Va
  | .int i, c => .ok (.int (if i < 0 then -i else i)) c
  | _, _ => .stk
theorem uc_abs : UnC X T W (fun xs H Q => ∃ i, xs = [.int i] ∧ Q (.int (if i < 0 then -i else i)) H) vAbs := by
  intro g σ H env cv x a Q S rx r
  unfold vAbs at r
  split at r
  · cases rx; exact ⟨_, rfl, r H (Po.refl S) _ (.int _)⟩
  · exact r.elim
def vInt : Va → Cv → Re Va
  | .int i, c => .ok (.int i) c
  | .bl b, c => .ok (.int (if b then 1 else 0)) c
  | _, _ => .stk
theorem uc_int : UnC X T W (fun xs H Q => (∃ i, xs = [.int i] ∧ Q (.int i) H) ∨ ∃ k, xs = [.bl k] ∧ Q (.int (if k then 1 else 0)) H) vInt := by
  intro g σ H env cv x a Q S rx r
  unfold vInt at r
  split at r
  · cases rx; exact .inl ⟨_, rfl, r H (Po.refl S) _ (.int _)⟩
  · cases rx; exact .inr ⟨_, rfl, r H (Po.refl S) _ (.int _)⟩
  · exact r.elim
def vStr : Va → Cv → Re Va
  | .int i, c => if i.natAbs.log2 < 1920 then .ok (.str (toString i)) c else .stk
  | .str s, c => .ok (.str s) c
  | _, _ => .stk
def rStrV : List V → Hp → VK → Prop := fun xs H Q => (∃ i, xs = [.int i] ∧ i.natAbs.log2 < 1920 ∧ Q (.str (toString i)) H) ∨ ∃ a, xs = [.str a] ∧ Q (.str a) H
theorem call_strV : CallR X (.type "str") rStrV := call_str_int.or SkE.call_str_str
theorem uc_str : UnC X T W rStrV vStr := by
  intro g σ H env cv x a Q S rx r
  unfold vStr at r
  split at r
  · split at r
    · cases rx; exact .inl ⟨_, rfl, ‹_›, r H (Po.refl S) _ (.str _)⟩
    · exact r.elim
  · cases rx; exact .inr ⟨_, rfl, r H (Po.refl S) _ (.str _)⟩
  · exact r.elim
/-! tuple(list), tuple(tuple) -/
def vTup : Va → Cv → Re Va
  | .lst ds, c => .ok (.tup ds) c
  | .tup ds, c => .ok (.tup ds) c
  | _, _ => .stk
theorem uc_tup : UnC X T W (fun xs H Q => ∃ p ys, xs = [.ref p] ∧ ((SqL X.K H p ys ∧ ∀ l, H l = none → Q (.ref l) (upd H l (.tup ys))) ∨ (SqT X.K H p ys ∧ Q (.ref p) H))) vTup := by
  intro g σ H env cv x a Q S rx r
  unfold vTup at r
  split at r
  · obtain ⟨p, xs, rfl, _, h1, r1⟩ := rx
    exact ⟨p, xs, rfl, .inl ⟨SqL.of h1, fun l n => r _ (Po.new S n fun _ z => by cases z) _ (.tup (hid_of (S.newM n) upd_same) (r1.mono (Po.le S (Po.new S n fun _ z => by cases z))))⟩⟩
  · cases rx with
    | tup h1 r1 => exact ⟨_, _, rfl, .inr ⟨SqT.of (hid_some h1).2, r H (Po.refl S) _ (.tup h1 r1)⟩⟩
  · exact r.elim
/-! list(list), list(tuple), list(script), list(dict) -/
def vLstOf : Va → Cv → Re Va
  | .lst ds, c => .ok (.lst ds) c
  | .tup ds, c => .ok (.lst ds) c
  | .scr ns, c => .ok (.lst (ns.map .int)) c
  | .dic false ks _, c => .ok (.lst ks) c
  | _, _ => .stk
def rLstDk : List V → Hp → VK → Prop := fun xs H Q => ∃ p kvs, xs = [.ref p] ∧ Rd H p (.dK kvs) ∧ ∀ l, H l = none → Q (.ref l) (upd H l (.lst (kvs.map fun kv => kV kv.1)))
theorem call_listDk (hc : X.calm = true) : CallR X (.type "list") rLstDk := fun pins s σ H xs us Q I rv hh => by
  obtain ⟨pa, kv, rfl, hrd, kq⟩ := hh
  rw [Vals.ref1 rv]
  obtain ⟨zz, ll, ws, rk, dd⟩ := dk_rd I.hok hrd
  obtain ⟨en, hat⟩ := dd.dictAt
  have ln : kv.length = ws.length := Paired.length rk
  have frsh := I.hok.fresh (Nat.le_refl _)
  refine PySem.W.kdl_call (PySem.W.kdl_dict (knd := mixKind X.prog X.w) (kvs := ws) (ep := en) ll) (I.ok.hd hc) hat (ln ▸ zz) fun h1 t1 ac c1 kp hS hac => ?_
  have vals : Vals (kv.map fun q => kV q.1) ac.toList := by
    refine vals_of_at (by simp [hac.1, ln]) fun j x w g1 g2 => ?_
    obtain ⟨k0, y0, hky, hi⟩ := hac.2 j w (by rw [← Array.getElem?_toList]; exact g2)
    have e1 : (kv.map (·.1))[j]? = some k0 := by rw [KV.keys rk, List.getElem?_map, hky] <;> rfl
    have e3 : (kv.map fun q => kV q.1) = (kv.map (·.1)).map kV := by rw [List.map_map] <;> rfl
    rw [e3, List.getElem?_map, e1] at g1
    cases g1
    exact keyIs_rel hi
  have ob : ObjOk X.prog X.w (upd H s.heap.objs.size (.lst (kv.map fun q => kV q.1))) h1 s.heap.objs.size (.lst (kv.map fun q => kV q.1)) :=
    ⟨by rw [List.length_map]; exact zz, ac.toList, c1, vals, by rw [Array.toArray_toList]; exact hS⟩
  exact ⟨V.ref s.heap.objs.size, _, I.laid kp (Nat.le_refl _) ob, rfl, kq _ frsh⟩
def rLstOf (X : Cx) : List V → Hp → VK → Prop := fun xs H Q => (∃ p ys, xs = [.ref p] ∧ (SqL X.K H p ys ∨ SqT X.K H p ys) ∧ ∀ l, H l = none → Q (.ref l) (upd H l (.lst ys))) ∨ rLstDk xs H Q
theorem call_listV (hc : X.calm = true) : CallR X (.type "list") (rLstOf X) := call_list_of.or (call_listDk hc)
theorem repL_keys {K : PySem.W.Frag} {mg : Str → Option Value} {c : Option Addr} {H : Hp} : ∀ kvs : List (Key × V), RepL K mg c H (kvs.map fun kv => kV kv.1) (kvs.map fun p => kVa p.1)
  | [] => .nil
  | (k, v) :: r => .cons (by cases k <;> constructor) (repL_keys r)
theorem ud_lst : UnD X T W (rLstOf X) vLstOf := by
  intro g σ H H0 env cv x a Q S h0 rx r
  unfold vLstOf at r
  split at r
  · obtain ⟨p, xs, rfl, _, h1, r1⟩ := rx
    exact .inl ⟨p, xs, rfl, .inl (SqL.of h1), fun l n => r _ (Po.new S n fun _ z => by cases z) l (h0 l n) ⟨_, upd_same, r1.mono (le_new S n)⟩⟩
  · cases rx with
    | tup h1 r1 => exact .inl ⟨_, _, rfl, .inr (SqT.of (hid_some h1).2), fun l n => r _ (Po.new S n fun _ z => by cases z) l (h0 l n) ⟨_, upd_same, r1.mono (le_new S n)⟩⟩
  · cases rx with
    | scr h1 => exact .inl ⟨_, _, rfl, .inl (le_hid_of.sqL h1), fun l n => r _ (Po.new S n fun _ z => by cases z) l (h0 l n) ⟨_, upd_same, RepL.ofInts _⟩⟩
  · obtain ⟨p, rfl, _, kvs, h1, rfl, h3⟩ := rx
    exact .inr ⟨p, kvs, rfl, h1, fun l n => r _ (Po.new S n fun _ z => by cases z) l (h0 l n) ⟨_, upd_same, repL_keys kvs⟩⟩
  · exact r.elim
/-! sum, max, min of ints -/
def intsOf : List Va → Option (List Int)
  | [] => some []
  | .int i :: r => (intsOf r).map (i :: ·)
  | _ => none
def blsOf : List Va → Option (List Bool)
  | [] => some []
  | .bl i :: r => (blsOf r).map (i :: ·)
  | _ => none
theorem intsOf_eq : ∀ {ds : List Va} {ns : List Int}, intsOf ds = some ns → ds = ns.map .int
  | [], _, h => by cases h; rfl
  | d :: r, ns, h => by
    unfold intsOf at h
    split at h
    · cases h; rename_i e; cases e
    · rename_i i r' e
      cases e
      cases q : intsOf r with
      | none => rw [q] at h; cases h
      | some ms => rw [q] at h; cases h; rw [intsOf_eq q]; rfl
    · cases h
theorem blsOf_eq : ∀ {ds : List Va} {ns : List Bool}, blsOf ds = some ns → ds = ns.map .bl
  | [], _, h => by cases h; rfl
  | d :: r, ns, h => by
    unfold blsOf at h
    split at h
    · cases h; rename_i e; cases e
    · rename_i i r' e
      cases e
      cases q : blsOf r with
      | none => rw [q] at h; cases h
      | some ms => rw [q] at h; cases h; rw [blsOf_eq q]; rfl
    · cases h
def vInts (z : List Int → Option Int) : Va → Cv → Re Va
  | .lst ds, c => match (intsOf ds).bind z with
    | some i => .ok (.int i) c
    | none => .stk
  | _, _ => .stk
def zSum (ns : List Int) : Option Int := some ns.sum
def zMax : List Int → Option Int
  | [] => none
  | n :: r => some (r.foldl max n)
def zMin : List Int → Option Int
  | [] => none
  | n :: r => some (r.foldl min n)
def vSum := vInts zSum
def vMax := vInts zMax
def vMin := vInts zMin
theorem vInts_out {z : List Int → Option Int} {g : Gh} {σ : St} {H : Hp} {env : Ev} {cv : Cv} {x : V} {a : Va} {Q : VK} (S : SR (gx X T) g σ H env cv) (rx : RepB (gx X T) g (hid H (Mt g σ env)) H x a) (r : ROut (gx X T) W g σ H (PV (gx X T) g σ env Q) (vInts z a cv)) :
    ∃ p ns i, x = .ref p ∧ SqL X.K H p (ns.map V.int) ∧ z ns = some i ∧ Q (.int i) H := by
  unfold vInts at r
  split at r
  · obtain ⟨p, xs, rfl, _, h1, r1⟩ := rx
    split at r
    · rename_i i h
      obtain ⟨ns, e1, e2⟩ := Option.bind_eq_some_iff.mp h
      rw [intsOf_eq e1] at r1
      rw [r1.ints] at h1
      exact ⟨p, ns, i, rfl, SqL.of h1, e2, r H (Po.refl S) _ (.int _)⟩
    · exact r.elim
  · exact r.elim
theorem uc_sum : UnC X T W (rSum X.K) vSum := fun g σ H env cv x a Q S rx r => by
  obtain ⟨p, ns, i, rfl, h1, h2, q⟩ := vInts_out S rx r
  cases h2
  exact ⟨p, ns, rfl, h1, q⟩
theorem foldl_max_mem : ∀ (r : List Int) (n : Int), r.foldl max n ∈ n :: r
  | [], n => by simp
  | a :: r, n => by
    have h := foldl_max_mem r (max n a)
    rw [List.foldl_cons]
    rcases List.mem_cons.mp h with e | e
    · rw [e]
      by_cases q : n ≤ a
      · rw [Int.max_eq_right q]; simp
      · rw [Int.max_eq_left (by omega)]; simp
    · exact List.mem_cons_of_mem _ (List.mem_cons_of_mem _ e)
theorem foldl_max_ge : ∀ (r : List Int) (n : Int), ∀ y ∈ n :: r, y ≤ r.foldl max n
  | [], n, y, h => by simp at h; rw [h]; exact Int.le_refl _
  | a :: r, n, y, h => by
    rw [List.foldl_cons]
    have h1 := foldl_max_ge r (max n a)
    rcases List.mem_cons.mp h with e | h
    · have := h1 _ List.mem_cons_self; omega
    · rcases List.mem_cons.mp h with e | h
      · have := h1 _ List.mem_cons_self; omega
      · exact h1 _ (List.mem_cons_of_mem _ h)
theorem foldl_min_mem : ∀ (r : List Int) (n : Int), r.foldl min n ∈ n :: r
  | [], n => by simp
  | a :: r, n => by
    have h := foldl_min_mem r (min n a)
    rw [List.foldl_cons]
    rcases List.mem_cons.mp h with e | e
    · rw [e]
      by_cases q : n ≤ a
      · rw [Int.min_eq_left q]; simp
      · rw [Int.min_eq_right (by omega)]; simp
    · exact List.mem_cons_of_mem _ (List.mem_cons_of_mem _ e)
theorem foldl_min_le : ∀ (r : List Int) (n : Int), ∀ y ∈ n :: r, r.foldl min n ≤ y
  | [], n, y, h => by simp at h; rw [h]; exact Int.le_refl _
  | a :: r, n, y, h => by
    rw [List.foldl_cons]
    have h1 := foldl_min_le r (min n a)
    rcases List.mem_cons.mp h with e | h
    · have := h1 _ List.mem_cons_self; omega
    · rcases List.mem_cons.mp h with e | h
      · have := h1 _ List.mem_cons_self; omega
      · exact h1 _ (List.mem_cons_of_mem _ h)
theorem uc_max : UnC X T W (rMax X.K) vMax := fun g σ H env cv x a Q S rx r => by
  obtain ⟨p, ns, i, rfl, h1, h2, q⟩ := vInts_out S rx r
  cases ns with
  | nil => cases h2
  | cons n r =>
    cases h2
    refine ⟨p, _, rfl, h1, by simp, fun m hm hg => ?_⟩
    have e : m = r.foldl max n := Int.le_antisymm (foldl_max_ge r n m hm) (hg _ (foldl_max_mem r n))
    rw [e]; exact q
theorem uc_min : UnC X T W (rMin X.K) vMin := fun g σ H env cv x a Q S rx r => by
  obtain ⟨p, ns, i, rfl, h1, h2, q⟩ := vInts_out S rx r
  cases ns with
  | nil => cases h2
  | cons n r =>
    cases h2
    refine ⟨p, _, rfl, h1, by simp, fun m hm hg => ?_⟩
    have e : m = r.foldl min n := Int.le_antisymm (hg _ (foldl_min_mem r n)) (foldl_min_le r n m hm)
    rw [e]; exact q
def vBls (z : List Bool → Bool) : Va → Cv → Re Va
  | .lst ds, c => match blsOf ds with
    | some bs => .ok (.bl (z bs)) c
    | none => .stk
  | _, _ => .stk
def vAll := vBls fun bs => bs.all id
def vAny := vBls fun bs => bs.any id
theorem uc_bls {z : List Bool → Bool} : UnC X T W (fun xs H Q => ∃ p bs, xs = [.ref p] ∧ SqL X.K H p (bs.map V.bl) ∧ Q (.bl (z bs)) H) (vBls z) := by
  intro g σ H env cv x a Q S rx r
  unfold vBls at r
  split at r
  · obtain ⟨p, xs, rfl, _, h1, r1⟩ := rx
    split at r
    · rename_i bs e
      rw [blsOf_eq e] at r1
      rw [r1.bls] at h1
      exact ⟨p, bs, rfl, SqL.of h1, r H (Po.refl S) _ (.bl _)⟩
    · exact r.elim
  · exact r.elim
end
end G

set_option Elab.async false
set_option linter.all false
set_option maxRecDepth 100000
set_option maxHeartbeats 2000000
namespace G
set_option autoImplicit false
open PySem PySem.Spec PyProof.Rows L2

/-! ### what a statement leaves -/
structure SPo (Γ : Gx) (g : Gh) (σ : St) (H : Hp) (env : Ev) (σ' : St) (H' : Hp) (env' : Ev) (cv' : Cv) : Prop where
  sr : SR Γ g σ' H' env' cv'
  keep : ∀ b o, H b = some o → (∀ ps, o ≠ .tbl ps) → g.c ≠ some b → ¬ Ow σ env b → H' b = some o
  there : ∀ b o, H b = some o → ∃ o', H' b = some o'
  ow : ∀ b, Ow σ' env' b → Ow σ env b ∨ H b = none
/-- .. a return -/
structure RPo (Γ : Gx) (fr : Bool) (g : Gh) (σ : St) (H : Hp) (env : Ev) (x : V) (d : Va) (H' : Hp) (cv' : Cv) : Prop where
  keep : ∀ b o, H b = some o → (∀ ps, o ≠ .tbl ps) → g.c ≠ some b → ¬ Ow σ env b → H' b = some o
  there : ∀ b o, H b = some o → ∃ o', H' b = some o'
  cst : CupAt g.c H' cv'
  tabs : LamX.Tabs Γ.T H'
  res : if fr then ∃ a, x = .ref a ∧ g.H0 a = none ∧ Top Γ g (hid H' fun b => g.M b ∨ b = a) H' a d else RepA Γ g (hid H' g.M) x d
def SOut (Γ : Gx) (W : WX) (fr : Bool) (g : Gh) (σ : St) (H : Hp) (env : Ev) (D : Ends) : Rs → Prop
  | .nx env' c => ∀ σ' H', SPo Γ g σ H env σ' H' env' c → D.nx σ' H'
  | .bk env' c => ∀ σ' H', SPo Γ g σ H env σ' H' env' c → D.bk σ' H'
  | .ct env' c => ∀ σ' H', SPo Γ g σ H env σ' H' env' c → D.ct σ' H'
  | .rt d c => ∀ x H', RPo Γ fr g σ H env x d H' c → D.rt x H'
  | .exn e env' c => ∀ cls dd σ' H', SPo Γ g σ H env σ' H' env' c → ExR Γ.mg e cls dd H' → W cls dd σ' H'
  | .stk => False
def TSD (Γ : Gx) (W : WX) (fr : Bool) (f : SS) : TS := fun D σ H => ∃ g env cv, SR Γ g σ H env cv ∧ SOut Γ W fr g σ H env D (f env cv)
def RS (X : Cx) (T : Gt) (W : WX) (fr : Bool) (st : Stmt) (f : SS) : Prop := PS X st (TSD (gx X T) W fr f)
def RSs (X : Cx) (T : Gt) (W : WX) (fr : Bool) (st : List Stmt) (f : SS) : Prop := PSs X st (TSD (gx X T) W fr f)
theorem ps_imp {X : Cx} {e : Stmt} {t t' : TS} (h : PS X e t) (i : ∀ D σ H, t' D σ H → t D σ H) : PS X e t' := ⟨fun pins s σ H D I q => h.run pins s σ H D I (i D σ H q)⟩
theorem pss_imp {X : Cx} {e : List Stmt} {t t' : TS} (h : PSs X e t) (i : ∀ D σ H, t' D σ H → t D σ H) : PSs X e t' := ⟨fun pins s σ H D I q => h.run pins s σ H D I (i D σ H q)⟩
section
variable {Γ : Gx} {W : WX} {fr : Bool} {g : Gh} {σ σ1 σ2 : St} {H H1 H2 : Hp} {env env1 env2 : Ev} {cv c1 c2 : Cv} {D : Ends} {x : V} {d : Va}
theorem SPo.refl (S : SR Γ g σ H env cv) : SPo Γ g σ H env σ H env cv := ⟨S, fun _ _ e _ _ _ => e, fun _ o e => ⟨o, e⟩, fun _ h => .inl h⟩
theorem SPo.trans (a : SPo Γ g σ H env σ1 H1 env1 c1) (b : SPo Γ g σ1 H1 env1 σ2 H2 env2 c2) : SPo Γ g σ H env σ2 H2 env2 c2 where
  sr := b.sr
  keep := fun p o e n m w => b.keep p o (a.keep p o e n m w) n m fun z => (a.ow p z).elim w fun q => by rw [e] at q; cases q
  there := fun p o e => by
    obtain ⟨o1, e1⟩ := a.there p o e
    exact b.there p o1 e1
  ow := fun p h => by
    rcases b.ow p h with h | h
    · exact a.ow p h
    · right
      cases q : H p with
      | none => rfl
      | some o =>
        obtain ⟨o1, e1⟩ := a.there p o q
        rw [h] at e1; cases e1
theorem SPo.ret (a : SPo Γ g σ H env σ1 H1 env1 c1) (b : RPo Γ fr g σ1 H1 env1 x d H2 c2) : RPo Γ fr g σ H env x d H2 c2 where
  keep := fun p o e n m w => b.keep p o (a.keep p o e n m w) n m fun z => (a.ow p z).elim w fun q => by rw [e] at q; cases q
  there := fun p o e => by
    obtain ⟨o1, e1⟩ := a.there p o e
    exact b.there p o1 e1
  cst := b.cst
  tabs := b.tabs
  res := b.res
theorem SPo.po (S : SR Γ g σ H env cv) (p : Po Γ g H H1 c1) : SPo Γ g σ H env σ H1 env c1 := ⟨S.after p, fun b o e n m _ => p.keep b o e n m, p.there, fun _ h => .inl h⟩
/-- the outcome seen from a later state -/
theorem SOut.shift (a : SPo Γ g σ H env σ1 H1 env1 c1) {r : Rs} (h : SOut Γ W fr g σ H env D r) : SOut Γ W fr g σ1 H1 env1 D r := by
  cases r with
  | nx e c => exact fun σ' H' q => h σ' H' (a.trans q)
  | bk e c => exact fun σ' H' q => h σ' H' (a.trans q)
  | ct e c => exact fun σ' H' q => h σ' H' (a.trans q)
  | rt d c => exact fun x H' q => h x H' (a.ret q)
  | exn e env' c => exact fun cls dd σ' H' q => h cls dd σ' H' (a.trans q)
  | stk => exact h
/-- an expression, then a statement of its value -/
def Re.sbind {α : Type} (r : Re α) (env : Ev) (k : α → Cv → Rs) : Rs := match r with
  | .ok a c => k a c
  | .exn e c => .exn e env c
  | .stk => .stk
theorem SOut.bnd {α : Type} {r : Re α} {k : α → Cv → Rs} (S : SR Γ g σ H env cv) (h : SOut Γ W fr g σ H env D (r.sbind env k)) : ROut Γ W g σ H (fun a c1 H1 => Po Γ g H H1 c1 ∧ SOut Γ W fr g σ H1 env D (k a c1)) r := by
  cases r with
  | ok a c => exact fun H' p => ⟨p, SOut.shift (SPo.po S p) h⟩
  | exn e c => exact fun cls dd H' p x => h cls dd σ H' (SPo.po S p) x
  | stk => exact h
end

/-! ### slots stored -/
section
variable {Γ : Gx} {W : WX} {fr : Bool} {g : Gh} {σ : St} {H H1 : Hp} {env : Ev} {cv c1 : Cv} {x : V} {d : Va} {i : Nat} {a : Addr}
theorem get_set {α : Type} {l : List α} {i j : Nat} {x y : α} (h : (l.set i x)[j]? = some y) : (i = j ∧ y = x) ∨ (i ≠ j ∧ l[j]? = some y) := by
  by_cases e : i = j
  · subst e
    by_cases q : i < l.length
    · rw [List.getElem?_set_self q] at h; cases h; exact .inl ⟨rfl, rfl⟩
    · rw [List.getElem?_eq_none (by simpa using q)] at h; cases h
  · rw [List.getElem?_set_ne e] at h; exact .inr ⟨e, h⟩
theorem ow_set {v : Option V} {sl : Sl} {b : Addr} (h : Ow (σ.set i v) (env.set i sl) b) : (∃ d, sl = .own d ∧ v = some (.ref b)) ∨ Ow σ env b := by
  obtain ⟨j, e, h1, h2⟩ := h
  rcases get_set h1 with ⟨q, e1⟩ | ⟨q, e1⟩
  · rcases get_set h2 with ⟨_, e2⟩ | ⟨q2, _⟩
    · exact .inl ⟨e, e1.symm, e2.symm⟩
    · exact absurd q q2
  · rcases get_set h2 with ⟨q2, _⟩ | ⟨_, e2⟩
    · exact absurd q2 q
    · exact .inr ⟨j, e, e1, e2⟩
theorem raw_set {ra : Rk → Addr → Prop} (h : ∀ (i : Nat) (k : Rk), env[i]? = some (.raw k) → ∃ a, ra k a ∧ σ[i]? = some (some (.ref a))) {v : Option V} {sl : Sl} (ns : ∀ k, sl ≠ .raw k) : ∀ (j : Nat) (k : Rk), (env.set i sl)[j]? = some (.raw k) → ∃ a, ra k a ∧ (σ.set i v)[j]? = some (some (.ref a)) := fun j k e => by
  rcases get_set e with ⟨q, e1⟩ | ⟨q, e1⟩
  · exact absurd e1.symm (ns k)
  · obtain ⟨a, h1, h2⟩ := h j k e1
    exact ⟨a, h1, by rw [List.getElem?_set_ne q]; exact h2⟩
theorem raw_setE {ra : Rk → Addr → Prop} (h : ∀ (i : Nat) (k : Rk), env[i]? = some (.raw k) → ∃ a, ra k a ∧ σ[i]? = some (some (.ref a))) {sl : Sl} (ns : ∀ k, sl ≠ .raw k) : ∀ (j : Nat) (k : Rk), (env.set i sl)[j]? = some (.raw k) → ∃ a, ra k a ∧ σ[j]? = some (some (.ref a)) := fun j k e => by
  rcases get_set e with ⟨q, e1⟩ | ⟨q, e1⟩
  · exact absurd e1.symm (ns k)
  · exact h j k e1
theorem SR.setVal (S : SR Γ g σ H env cv) (rx : RepA Γ g (hid H (Mt g σ env)) x d) : SPo Γ g σ H env (σ.set i (some x)) H (env.set i (.val d)) cv := by
  have sub : ∀ b, Ow (σ.set i (some x)) (env.set i (.val d)) b → Ow σ env b := fun b h => by
    rcases ow_set h with ⟨_, z, _⟩ | h
    · cases z
    · exact h
  have l : Le (hid H (Mt g σ env)) (hid H (Mt g (σ.set i (some x)) (env.set i (.val d)))) := le_hid (fun b o _ e _ => e) fun b z => .inl (z.imp id (sub b))
  refine ⟨⟨by simp [S.len], fun j e h => ?_, fun j e h => ?_, fun j e h => ?_, raw_set S.raw (fun _ z => nomatch z), fun j k e1 e2 b h1 h2 h3 h4 => ?_, S.cst, S.cM, S.mt, S.ent, S.there, S.tabs, S.lb⟩, fun b o e _ _ _ => e, fun b o e => ⟨o, e⟩, fun b h => .inl (sub b h)⟩
  · rcases get_set h with ⟨q, e1⟩ | ⟨q, e1⟩
    · cases e1
      subst q
      have hl : i < σ.length := by
        rw [S.len]
        have := List.getElem?_eq_some_iff.mp h
        simpa using this.1
      exact ⟨x, List.getElem?_set_self hl, rx.mono l⟩
    · obtain ⟨y, e2, r⟩ := S.val j e e1
      exact ⟨y, by rw [List.getElem?_set_ne q]; exact e2, r.mono l⟩
  · rcases get_set h with ⟨q, e1⟩ | ⟨q, e1⟩
    · cases e1
    · obtain ⟨y, e2, n, z, t⟩ := S.own j e e1
      exact ⟨y, by rw [List.getElem?_set_ne q]; exact e2, n, z, t.mono l fun _ e => e⟩
  · rcases get_set h with ⟨q, e1⟩ | ⟨q, e1⟩
    · cases e1
    · obtain ⟨y, e2, r⟩ := S.bor j e e1
      exact ⟨y, by rw [List.getElem?_set_ne q]; exact e2, r.mono l fun _ _ e _ _ => e⟩
  · rcases get_set h1 with ⟨q, e1⟩ | ⟨q, e1⟩
    · cases e1
    · rcases get_set h2 with ⟨q2, e2⟩ | ⟨q2, e2⟩
      · cases e2
      · rw [List.getElem?_set_ne q] at h3
        rw [List.getElem?_set_ne q2] at h4
        exact S.sep j k _ _ b e1 e2 h3 h4
theorem SR.setOwn (S : SR Γ g σ H env cv) (p : Po Γ g H H1 c1) (n : H a = none) (t : Top Γ g (hid H1 (Mp g σ env a)) H1 a d) : SPo Γ g σ H env (σ.set i (some (.ref a))) H1 (env.set i (.own d)) c1 := by
  have S1 := S.after p
  have sub : ∀ b, Ow (σ.set i (some (.ref a))) (env.set i (.own d)) b → b = a ∨ Ow σ env b := fun b h => by
    rcases ow_set h with ⟨_, _, z⟩ | h
    · cases z; exact .inl rfl
    · exact .inr h
  have l : Le (hid H (Mt g σ env)) (hid H1 (Mt g (σ.set i (some (.ref a))) (env.set i (.own d)))) := le_hid (fun b o nb e t => p.keep b o e t fun z => nb (.inl (S.cM b z))) fun b z => by
    rcases z with z | z
    · exact .inl (.inl z)
    · rcases sub b z with z | z
      · subst z; exact .inr n
      · exact .inl (.inr z)
  have l2 : Le (hid H1 (Mp g σ env a)) (hid H1 (Mt g (σ.set i (some (.ref a))) (env.set i (.own d)))) := le_hid (fun b o _ e _ => e) fun b z => by
    rcases z with z | z
    · exact .inl (.inl (.inl z))
    · rcases sub b z with z | z
      · exact .inl (.inr z)
      · exact .inl (.inl (.inr z))
  have noOw : ¬ Ow σ env a := fun z => S.newM n (.inr z)
  refine ⟨⟨by simp [S.len], fun j e h => ?_, fun j e h => ?_, fun j e h => ?_, raw_set S.raw (fun _ z => nomatch z), fun j k e1 e2 b h1 h2 h3 h4 => ?_, S1.cst, S.cM, S1.mt, S1.ent, S1.there, S1.tabs, S.lb⟩, fun b o e t m _ => p.keep b o e t m, p.there, fun b h => (sub b h).elim (fun z => by subst z; exact .inr n) .inl⟩
  · rcases get_set h with ⟨q, e1⟩ | ⟨q, e1⟩
    · cases e1
    · obtain ⟨y, e2, r⟩ := S.val j e e1
      exact ⟨y, by rw [List.getElem?_set_ne q]; exact e2, r.mono l⟩
  · rcases get_set h with ⟨q, e1⟩ | ⟨q, e1⟩
    · cases e1
      subst q
      have hl : i < σ.length := by
        rw [S.len]
        have := List.getElem?_eq_some_iff.mp h
        simpa using this.1
      exact ⟨a, List.getElem?_set_self hl, fun z => S.newM n (.inl z), S.new0 n, t.mono l2 fun _ e => e⟩
    · obtain ⟨y, e2, n1, z, t1⟩ := S.own j e e1
      refine ⟨y, by rw [List.getElem?_set_ne q]; exact e2, n1, z, t1.mono l fun o eo => ?_⟩
      obtain ⟨o', eo', di⟩ := t1.some
      rw [eo'] at eo; cases eo
      exact p.keep y _ eo' (fun ps z => by subst z; exact di) fun q => n1 (S.cM y q)
  · rcases get_set h with ⟨q, e1⟩ | ⟨q, e1⟩
    · cases e1
    · obtain ⟨y, e2, r⟩ := S.bor j e e1
      exact ⟨y, by rw [List.getElem?_set_ne q]; exact e2, r.mono l fun _ _ e _ _ => e⟩
  · rcases get_set h1 with ⟨q, e1⟩ | ⟨q, e1⟩ <;> rcases get_set h2 with ⟨q2, e2⟩ | ⟨q2, e2⟩
    · exact q.symm.trans q2
    · exfalso
      subst q
      rw [List.getElem?_set_ne q2] at h4
      rcases get_set h3 with ⟨_, e⟩ | ⟨z, _⟩
      · cases e; exact noOw ⟨k, _, e2, h4⟩
      · exact z rfl
    · exfalso
      subst q2
      rw [List.getElem?_set_ne q] at h3
      rcases get_set h4 with ⟨_, e⟩ | ⟨z, _⟩
      · cases e; exact noOw ⟨j, _, e1, h3⟩
      · exact z rfl
    · rw [List.getElem?_set_ne q] at h3
      rw [List.getElem?_set_ne q2] at h4
      exact S.sep j k _ _ b e1 e2 h3 h4
end
end G

set_option Elab.async false
set_option linter.all false
set_option maxRecDepth 100000
set_option maxHeartbeats 2000000
namespace G
set_option autoImplicit false
open PySem PySem.Spec PyProof.Rows L2

/-! ### freezing: an own object becomes a value -/
def frz (i : Nat) (env : Ev) : Ev := match env[i]? with
  | some (.own d) => env.set i (.val d)
  | _ => env
def frzs : List Nat → Ev → Ev
  | [], env => env
  | i :: r, env => frzs r (frz i env)
section
variable {Γ : Gx} {W : WX} {fr : Bool} {g : Gh} {σ : St} {H H1 : Hp} {env : Ev} {cv c1 : Cv} {x : V} {d d' : Va} {i : Nat} {a : Addr}
theorem SR.freeze (S : SR Γ g σ H env cv) (i : Nat) : SPo Γ g σ H env σ H (frz i env) cv := by
  unfold frz
  split
  · rename_i d hi
    obtain ⟨a, ea, na, z0, t0⟩ := S.own i d hi
    have sub : ∀ b, Ow σ (env.set i (.val d)) b → b ≠ a ∧ Ow σ env b := fun b h => by
      obtain ⟨j, e, h1, h2⟩ := h
      rcases get_set h1 with ⟨q, e1⟩ | ⟨q, e1⟩
      · cases e1
      · refine ⟨fun z => q ?_, j, e, e1, h2⟩
        subst z
        exact S.sep i j _ _ b hi e1 ea h2
    have l : Le (hid H (Mt g σ env)) (hid H (Mt g σ (env.set i (.val d)))) := le_hid (fun b o _ e _ => e) fun b z => .inl (z.imp id fun q => (sub b q).2)
    have nm : ¬ Mt g σ (env.set i (.val d)) a := fun z => z.elim na fun q => (sub a q).1 rfl
    refine ⟨⟨by simp [S.len], fun j e h => ?_, fun j e h => ?_, fun j e h => ?_, raw_setE S.raw (fun _ z => nomatch z), fun j k e1 e2 b h1 h2 h3 h4 => ?_, S.cst, S.cM, S.mt, S.ent, S.there, S.tabs, S.lb⟩, fun b o e _ _ _ => e, fun b o e => ⟨o, e⟩, fun b h => .inl (sub b h).2⟩
    · rcases get_set h with ⟨q, e1⟩ | ⟨q, e1⟩
      · cases e1
        subst q
        exact ⟨_, ea, t0.rep l fun o e => hid_of nm e⟩
      · obtain ⟨y, e2, r⟩ := S.val j e e1
        exact ⟨y, e2, r.mono l⟩
    · rcases get_set h with ⟨q, e1⟩ | ⟨q, e1⟩
      · cases e1
      · obtain ⟨y, e2, n, z, t⟩ := S.own j e e1
        exact ⟨y, e2, n, z, t.mono l fun _ e => e⟩
    · rcases get_set h with ⟨q, e1⟩ | ⟨q, e1⟩
      · cases e1
      · obtain ⟨y, e2, r⟩ := S.bor j e e1
        exact ⟨y, e2, r.mono l fun _ _ e _ _ => e⟩
    · rcases get_set h1 with ⟨q, e1⟩ | ⟨q, e1⟩
      · cases e1
      · rcases get_set h2 with ⟨q2, e2⟩ | ⟨q2, e2⟩
        · cases e2
        · exact S.sep j k _ _ b e1 e2 h3 h4
  · exact SPo.refl S
theorem SR.freezes : ∀ (is : List Nat) {env : Ev} (S : SR Γ g σ H env cv), SPo Γ g σ H env σ H (frzs is env) cv
  | [], _, S => SPo.refl S
  | i :: r, _, S => (SR.freeze S i).trans (SR.freezes r (SR.freeze S i).sr)
/-- an own object is written -/
theorem SR.mut {o : HO} (S : SR Γ g σ H env cv) (hi : env[i]? = some (.own d)) (hs : σ[i]? = some (some (.ref a))) (t : Top Γ g (hid H (Mt g σ env)) (upd H a o) a d') (di : isD o) : SPo Γ g σ H env σ (upd H a o) (env.set i (.own d')) cv := by
  obtain ⟨a', ea, na, z0, t0⟩ := S.own i d hi
  rw [hs] at ea
  have e' : a = a' := by cases ea; rfl
  subst e'
  obtain ⟨o0, ho0, di0⟩ := t0.some
  have hil : i < env.length := (List.getElem?_eq_some_iff.mp hi).1
  have ow : ∀ b, Ow σ (env.set i (.own d')) b → Ow σ env b := fun b h => by
    obtain ⟨j, e, h1, h2⟩ := h
    rcases get_set h1 with ⟨q, e1⟩ | ⟨q, e1⟩
    · subst q; exact ⟨i, d, hi, h2⟩
    · exact ⟨j, e, e1, h2⟩
  have l : Le (hid H (Mt g σ env)) (hid (upd H a o) (Mt g σ (env.set i (.own d')))) := le_hid (fun b u nb e _ => by rw [upd_ne (fun z => nb (.inr ⟨i, d, hi, by rw [z]; exact hs⟩))]; exact e) fun b z => .inl (z.imp id (ow b))
  have nc : g.c ≠ some a := fun z => na (S.cM a z)
  have tabs : LamX.Tabs Γ.T (upd H a o) := fun p hp => by
    obtain ⟨ps, h1, h2, h3⟩ := S.tabs p hp
    refine ⟨ps, by rw [upd_ne (fun z => by rw [z, ho0] at h1; cases h1; exact di0)]; exact h1, h2, fun pos v hc => ?_⟩
    obtain ⟨c, e1, e2⟩ := h3 pos v hc
    exact ⟨c, e1, by rw [upd_ne (fun z => by rw [z, ho0] at e2; have e3 := Option.some.inj e2; rw [e3] at di0; exact di0)]; exact e2⟩
  have cst : CupAt g.c (upd H a o) cv := by
    have h := S.cst
    obtain ⟨c, M, H0⟩ := g
    cases c with
    | none => cases cv <;> exact h
    | some b =>
      cases cv with
      | none => exact h
      | some xy =>
        have h : H b = some (.lst [.int xy.1, .int xy.2]) := h
        show upd H a o b = _
        rw [upd_ne (fun z => nc (by rw [z]))]; exact h
  refine ⟨⟨by simp [S.len], fun j e h => ?_, fun j e h => ?_, fun j e h => ?_, raw_setE S.raw (fun _ z => nomatch z), fun j k e1 e2 b h1 h2 h3 h4 => ?_, cst, S.cM, fun b z => ?_, fun b u e1 e2 e3 => ?_, fun b u e => ?_, tabs, S.lb⟩, fun b u e _ _ n => ?_, fun b u e => ?_, fun b h => .inl (ow b h)⟩
  · rcases get_set h with ⟨q, e1⟩ | ⟨q, e1⟩
    · cases e1
    · obtain ⟨y, e2, r⟩ := S.val j e e1
      exact ⟨y, e2, r.mono l⟩
  · rcases get_set h with ⟨q, e1⟩ | ⟨q, e1⟩
    · cases e1
      subst q
      exact ⟨a, hs, na, z0, t.mono l fun _ e => e⟩
    · obtain ⟨y, e2, n, z, t1⟩ := S.own j e e1
      refine ⟨y, e2, n, z, t1.mono l fun u e => ?_⟩
      rw [upd_ne (fun w => by subst w; exact q (S.sep i j _ _ _ hi e1 hs e2))]; exact e
  · rcases get_set h with ⟨q, e1⟩ | ⟨q, e1⟩
    · cases e1
    · obtain ⟨y, e2, r⟩ := S.bor j e e1
      exact ⟨y, e2, r.mono l fun _ _ e _ _ => e⟩
  · have pick : ∀ {j : Nat} {e : Va}, (env.set i (.own d'))[j]? = some (.own e) → ∃ e', env[j]? = some (.own e') := fun {j e} h => by
      rcases get_set h with ⟨q, e1⟩ | ⟨q, e1⟩
      · subst q; exact ⟨d, hi⟩
      · exact ⟨e, e1⟩
    obtain ⟨f1, q1⟩ := pick h1
    obtain ⟨f2, q2⟩ := pick h2
    exact S.sep j k _ _ b q1 q2 h3 h4
  · obtain ⟨u', e'⟩ := S.mt b z
    by_cases z : b = a
    · subst z; exact ⟨o, upd_same⟩
    · exact ⟨u', by rw [upd_ne z]; exact e'⟩
  · rw [upd_ne (fun z => by rw [z, z0] at e1; cases e1)]; exact S.ent b u e1 e2 e3
  · obtain ⟨u', e'⟩ := S.there b u e
    by_cases z : b = a
    · subst z; exact ⟨o, upd_same⟩
    · exact ⟨u', by rw [upd_ne z]; exact e'⟩
  · rw [upd_ne (fun z => n ⟨i, d, hi, by rw [z]; exact hs⟩)]; exact e
  · by_cases z : b = a
    · subst z; exact ⟨o, upd_same⟩
    · exact ⟨u, by rw [upd_ne z]; exact e⟩
end

/-! ### sequences -/
def sNext : SS := fun env c => .nx env c
def sSeq (f h : SS) : SS := fun env c => match f env c with
  | .nx e c1 => h e c1
  | .bk e c1 => .bk e c1
  | .ct e c1 => .ct e c1
  | .rt d c1 => .rt d c1
  | .exn x e c1 => .exn x e c1
  | .stk => .stk
section
variable {X : Cx} {T : Gt} {W : WX} {fr : Bool} {st : Stmt} {sts sts2 : List Stmt} {e a b : Expr} {f h : SE} {t : ST} {fs fh : SS} {pos : Pos}
theorem rss_nil : RSs X T W fr [] sNext := pss_imp pss_nil fun D σ H ⟨g, env, cv, S, r⟩ => r σ H (SPo.refl S)
theorem rss_cons (h1 : RS X T W fr st fs) (h2 : RSs X T W fr sts fh) : RSs X T W fr (st :: sts) (sSeq fs fh) :=
  pss_imp (pss_cons h1 h2) fun D σ H ⟨g, env, cv, S, r⟩ => ⟨g, env, cv, S, by
    unfold sSeq at r
    cases q : fs env cv with
    | nx e c => rw [q] at r; exact fun σ' H' p => ⟨g, e, c, p.sr, SOut.shift p r⟩
    | bk e c => rw [q] at r; exact r
    | ct e c => rw [q] at r; exact r
    | rt e c => rw [q] at r; exact r
    | exn x e c => rw [q] at r; exact r
    | stk => rw [q] at r; exact r⟩
theorem rss_one (h1 : RS X T W fr st fs) : RSs X T W fr [st] fs := pss_one h1
theorem rs_frz (is : List Nat) (h1 : RS X T W fr st fs) : RS X T W fr st (fun env c => fs (frzs is env) c) :=
  ps_imp h1 fun D σ H ⟨g, env, cv, S, r⟩ => ⟨g, _, cv, (SR.freezes is S).sr, SOut.shift (SR.freezes is S) r⟩
theorem rss_frz (is : List Nat) (h1 : RSs X T W fr sts fs) : RSs X T W fr sts (fun env c => fs (frzs is env) c) :=
  pss_imp h1 fun D σ H ⟨g, env, cv, S, r⟩ => ⟨g, _, cv, (SR.freezes is S).sr, SOut.shift (SR.freezes is S) r⟩
def sBreak : SS := fun env c => .bk env c
def sCont : SS := fun env c => .ct env c
theorem rs_pass : RS X T W fr (.Pass pos) sNext := ps_imp ps_pass fun D σ H ⟨g, env, cv, S, r⟩ => r σ H (SPo.refl S)
theorem rs_break : RS X T W fr (.Break pos) sBreak := ps_imp ps_break fun D σ H ⟨g, env, cv, S, r⟩ => r σ H (SPo.refl S)
theorem rs_cont : RS X T W fr (.Continue pos) sCont := ps_imp ps_continue fun D σ H ⟨g, env, cv, S, r⟩ => r σ H (SPo.refl S)
theorem rs_never : RS X T W fr st (fun _ _ => .stk) := ps_imp ps_never fun D σ H ⟨g, env, cv, S, r⟩ => r
theorem rss_never : RSs X T W fr sts (fun _ _ => .stk) := pss_imp pss_never fun D σ H ⟨g, env, cv, S, r⟩ => r

/-! ### expressions as statements, stores, returns -/
theorem SOut.bnd0 {Γ : Gx} {g : Gh} {σ : St} {H : Hp} {env : Ev} {cv : Cv} {D : Ends} {α : Type} {r : Re α} {k : α → Cv → Rs} (S : SR Γ g σ H env cv) (h : SOut Γ W fr g σ H env D (r.sbind env k)) :
    ROut Γ W g σ H (fun a c1 H1 => Po Γ g H H1 c1 ∧ SOut Γ W fr g σ H env D (k a c1)) r := by
  cases r with
  | ok a c => exact fun H' p => ⟨p, h⟩
  | exn e c => exact fun cls dd H' p x => h cls dd σ H' (SPo.po S p) x
  | stk => exact h
def sDrop (f : SE) : SS := fun env c => (f env c).sbind env fun _ c1 => .nx env c1
theorem rs_drop (he : RE X T W e f) (hs : swapsWith e none pos.line X.env = pure false := by rfl) : RS X T W fr (.Expr e pos) (sDrop f) :=
  ps_imp (ps_expr he hs) fun D σ H ⟨g, env, cv, S, r⟩ => ⟨g, env, cv, S, (SOut.bnd S r).mono fun d c1 H1 p q x rx => q.2 σ H1 (SPo.refl (S.after p))⟩
def sVal (i : Nat) (f : SE) : SS := fun env c => (f env c).sbind env fun d c1 => .nx (env.set i (.val d)) c1
theorem rs_val (j : JX X W) (i : Nat) {x : Str} {p2 : Pos} (he : RE X T W e f) (hi : X.N[i]? = some x := by rfl) (hx : Loc X.env.scope x := by first | exact .inl rfl | exact .inr rfl) (hs : swapsWith e (some (.Name x p2)) pos.line X.env = pure false := by rfl)
    (hf : X.fn x = true ∨ X.env.scope.names.lookup x = some .local := by first | exact .inl rfl | exact .inr rfl) : RS X T W fr (.Assign [.Name x p2] e pos) (sVal i f) :=
  ps_imp (ps_set j.nd hi hx he hs hf) fun D σ H ⟨g, env, cv, S, r⟩ => ⟨g, env, cv, S, (SOut.bnd S r).mono fun d c1 H1 p q x rx => q.2 _ _ (SR.setVal (S.after p) rx)⟩
def sOwn (i : Nat) (f : SE) : SS := fun env c => (f env c).sbind env fun d c1 => .nx (env.set i (.own d)) c1
theorem own_imp {i : Nat} {D : Ends} {σ : St} {H : Hp} {g : Gh} {env : Ev} {cv : Cv} (S : SR (gx X T) g σ H env cv) (r : SOut (gx X T) W fr g σ H env D (sOwn i f env cv)) : tAsg (TF (gx X T) W f) (gName i) D σ H :=
  ⟨g, env, cv, S, (SOut.bnd0 S r).mono fun d c1 H1 p q a n t => q.2 _ _ (SR.setOwn S q.1 n t)⟩
theorem rs_own (j : JX X W) (i : Nat) {x : Str} {p2 : Pos} (he : RF X T W e f) (hi : X.N[i]? = some x := by rfl) (hx : Loc X.env.scope x := by first | exact .inl rfl | exact .inr rfl) (hs : swapsWith e (some (.Name x p2)) pos.line X.env = pure false := by rfl)
    (hf : X.fn x = true ∨ X.env.scope.names.lookup x = some .local := by first | exact .inl rfl | exact .inr rfl) : RS X T W fr (.Assign [.Name x p2] e pos) (sOwn i f) :=
  ps_imp (ps_set j.nd hi hx he hs hf) fun D σ H ⟨g, env, cv, S, r⟩ => own_imp S r
def sRet (f : SE) : SS := fun env c => (f env c).sbind env fun d c1 => .rt d c1
theorem rs_ret (he : RE X T W e f) : RS X T W false (.Return (some e) pos) (sRet f) :=
  ps_imp (ps_ret he) fun D σ H ⟨g, env, cv, S, r⟩ => ⟨g, env, cv, S, (SOut.bnd0 S r).mono fun d c1 H1 p q x rx => q.2 _ _
    ⟨fun b o e t n _ => q.1.keep b o e t n, q.1.there, q.1.cst, q.1.tabs, rx.mono (le_hid (fun b o _ e _ => e) fun b z => .inl (.inl z))⟩⟩
theorem rs_retF (he : RF X T W e f) : RS X T W true (.Return (some e) pos) (sRet f) :=
  ps_imp (ps_ret he) fun D σ H ⟨g, env, cv, S, r⟩ => ⟨g, env, cv, S, (SOut.bnd0 S r).mono fun d c1 H1 p q a n t => q.2 _ _
    ⟨fun b o e t n _ => q.1.keep b o e t n, q.1.there, q.1.cst, q.1.tabs, a, rfl, S.new0 n, t.mono (le_hid (fun b o _ e _ => e) fun b z => .inl (z.elim (fun z => .inl (.inl z)) .inr)) fun _ e => e⟩⟩
/-- an own object is returned -/
def sRetO (i : Nat) : SS := fun env c => match env[i]? with
  | some (.own d) => .rt d c
  | _ => .stk
theorem rs_retO (i : Nat) {x : Str} {p2 : Pos} (hN : X.N[i]? = some x := by rfl) (hv : Vis X.env.scope x := by first | exact Or.inl rfl | exact Or.inr (Or.inl rfl) | exact Or.inr (Or.inr rfl)) (hd : (x == ("__debug__" : Str)) = false := by decide)
    (hcd : (x == ("__classdict__" : Str)) = false := by decide) : RS X T W true (.Return (some (.Name x p2)) pos) (sRetO i) :=
  ps_imp (ps_ret (pe_var hN hv hd hcd)) fun D σ H ⟨g, env, cv, S, r⟩ => by
    unfold sRetO at r
    split at r
    · rename_i d hi
      obtain ⟨a, ea, na, z0, t0⟩ := S.own i d hi
      refine ⟨_, ea, r _ _ ⟨fun b o e _ _ _ => e, fun b o e => ⟨o, e⟩, S.cst, S.tabs, a, rfl, z0, t0.mono (le_hid (fun b o _ e _ => e) fun b z => .inl ?_) fun _ e => e⟩⟩
      rcases z with z | z
      · exact .inl z
      · exact .inr ⟨i, d, hi, by rw [z]; exact ea⟩
    · exact r.elim
def sRetN : SS := fun _ c => .rt .non c
theorem rs_retN : RS X T W false (.Return none pos) sRetN :=
  ps_imp ps_retN fun D σ H ⟨g, env, cv, S, r⟩ => r _ _ ⟨fun b o e _ _ _ => e, fun b o e => ⟨o, e⟩, S.cst, S.tabs, .non⟩

/-! ### if -/
def sIf (t : ST) (f h : SS) : SS := fun env c => (t env c).sbind env fun b c1 => if b then f env c1 else h env c1
theorem rs_if (hc : RT X T W e t) (ha : RSs X T W fr sts fs) (hb : RSs X T W fr sts2 fh) : RS X T W fr (.If e sts sts2 pos) (sIf t fs fh) :=
  ps_imp (ps_if hc ha hb) fun D σ H ⟨g, env, cv, S, r⟩ => ⟨g, env, cv, S, (SOut.bnd S r).mono fun b c1 H1 p q => by
    cases b with
    | true => exact ⟨g, env, c1, S.after p, q.2⟩
    | false => exact ⟨g, env, c1, S.after p, q.2⟩⟩

/-! ### x op= e with ints -/
def sAug (i : Nat) (f : SE) (k : Int → Int → Int) : SS := fun env c => match env[i]? with
  | some (.val (.int n)) => (f env c).sbind env fun d c1 => match d with
    | .int m => .nx (env.set i (.val (.int (k n m)))) c1
    | _ => .stk
  | _ => .stk
theorem rs_aug (j : JX X W) (i : Nat) {x : Str} {p2 : Pos} {op : Operator} {k : Int → Int → Int} (ho : PIp X op (ipI k)) (he : RE X T W e f) (hi : X.N[i]? = some x := by rfl) (hx : Loc X.env.scope x := by first | exact .inl rfl | exact .inr rfl)
    (hf : X.fn x = true ∨ X.env.scope.names.lookup x = some .local := by first | exact .inl rfl | exact .inr rfl) : RS X T W fr (.AugAssign (.Name x p2) op e pos) (sAug i f k) :=
  ps_imp (ps_aug j.nd hi hx he ho hf) fun D σ H ⟨g, env, cv, S, r⟩ => by
    unfold sAug at r
    split at r
    · rename_i n hi
      obtain ⟨x, ex, rx⟩ := S.val i _ hi
      cases rx
      refine ⟨_, ex, g, env, cv, S, (SOut.bnd S r).mono fun d c1 H1 p q y ry => ?_⟩
      split at q
      · cases ry
        exact ⟨_, _, rfl, rfl, q.2 _ _ (SR.setVal (S.after p) (.int _))⟩
      · exact q.2.elim
    · exact r.elim

end
end G

set_option Elab.async false
set_option linter.all false
set_option maxRecDepth 100000
set_option maxHeartbeats 2000000
namespace G
set_option autoImplicit false
open PySem PySem.Spec PyProof.Rows L2

/-! ### several values, some of them objects of one's own -/
inductive SlsOk (Γ : Gx) (g : Gh) (Hh H : Hp) : List V → List Sl → List Addr → Prop
  | nil : SlsOk Γ g Hh H [] [] []
  | val {x : V} {d : Va} {xs : List V} {ss : List Sl} {A : List Addr} : RepA Γ g Hh x d → SlsOk Γ g Hh H xs ss A → SlsOk Γ g Hh H (x :: xs) (.val d :: ss) A
  | own {a : Addr} {d : Va} {xs : List V} {ss : List Sl} {A : List Addr} : Top Γ g Hh H a d → SlsOk Γ g Hh H xs ss A → SlsOk Γ g Hh H (.ref a :: xs) (.own d :: ss) (a :: A)
def MtA (g : Gh) (σ : St) (env : Ev) (A : List Addr) (b : Addr) : Prop := Mt g σ env b ∨ b ∈ A
abbrev SM := Ev → Cv → Re (List Sl)
def PM (Γ : Gx) (g : Gh) (σ : St) (env : Ev) (H : Hp) (Q : List V → Hp → Prop) (ss : List Sl) (_ : Cv) (H' : Hp) : Prop :=
  ∀ xs A, A.Nodup → (∀ a ∈ A, H a = none) → SlsOk Γ g (hid H' (MtA g σ env A)) H' xs ss A → Q xs H'
def TM (Γ : Gx) (W : WX) (f : SM) : TA := fun σ H Q => ∃ g env cv, SR Γ g σ H env cv ∧ ROut Γ W g σ H (PM Γ g σ env H Q) (f env cv)
def RM (X : Cx) (T : Gt) (W : WX) (es : List Expr) (f : SM) : Prop := PA X es (TM (gx X T) W f)
section
variable {Γ : Gx} {W : WX} {fr : Bool} {g : Gh} {σ : St} {H H1 : Hp} {env : Ev} {cv c1 : Cv} {A : Addr → Prop}
theorem ROut.add {α : Type} {P : α → Cv → Hp → Prop} {r : Re α} (h : ROut Γ W g σ H P r) : ROut Γ W (g.add A) σ H P r := by
  cases r with
  | ok a c => exact fun H' q => h H' q.sub
  | exn e c => exact fun cls dd H' q => h cls dd H' q.sub
  | stk => exact h
theorem SlsOk.mono {g' : Gh} {Hh Hh' H' : Hp} (hc : g.c = g'.c) (l : Le Hh Hh') (k : ∀ a o, isD o → H a = some o → H' a = some o) : ∀ {xs ss As}, SlsOk Γ g Hh H xs ss As → SlsOk Γ g' Hh' H' xs ss As
  | _, _, _, .nil => .nil
  | _, _, _, .val r t => .val (by
      have := r.mono l
      unfold RepA at this ⊢
      rw [← hc]; exact this) (SlsOk.mono hc l k t)
  | _, _, _, .own (a := a) (d := d) r t => by
    refine .own ?_ (SlsOk.mono hc l k t)
    cases d with
    | lst ds => obtain ⟨xs, h1, h2⟩ := r; exact ⟨xs, k _ _ trivial h1, by have := h2.mono l; unfold RepLA at this ⊢; rw [← hc]; exact this⟩
    | dic t ks vs => cases t <;> (obtain ⟨kvs, h1, h2, h3⟩ := r; exact ⟨kvs, k _ _ trivial h1, h2, by have := h3.mono l; unfold RepLA at this ⊢; rw [← hc]; exact this⟩)
    | _ => exact r.elim
theorem SlsOk.len {Hh : Hp} : ∀ {xs ss As}, SlsOk Γ g Hh H xs ss As → xs.length = ss.length
  | _, _, _, .nil => rfl
  | _, _, _, .val _ t => by simp [t.len]
  | _, _, _, .own _ t => by simp [t.len]
end
section
variable {X : Cx} {T : Gt} {W : WX} {fr : Bool} {e a b : Expr} {es : List Expr} {f h : SE} {fm : SM} {pos : Pos}
def mNil : SM := fun _ c => .ok [] c
def mVal (f : SE) (fm : SM) : SM := fun env c => (f env c).bind fun d c1 => (fm env c1).bind fun ds c2 => .ok (.val d :: ds) c2
def mOwn (f : SE) (fm : SM) : SM := fun env c => (f env c).bind fun d c1 => (fm env c1).bind fun ds c2 => .ok (.own d :: ds) c2
theorem rm_nil : RM X T W [] mNil := pa_imp pa_nil fun σ H Q ⟨g, env, cv, S, r⟩ => r H (Po.refl S) [] [] List.nodup_nil (by simp) .nil
theorem rm_val (he : RE X T W e f) (hr : RM X T W es fm) (hs : starEach (e :: es) X.env = (false, eval e X.env) :: starEach es X.env := by rfl) : RM X T W (e :: es) (mVal f fm) :=
  pa_imp (pa_cons he hr hs) fun σ H Q ⟨g, env, cv, S, r⟩ => ⟨g, env, cv, S, r.bnd.mono fun d c1 H1 p q x rx => ⟨g, env, c1, S.after p, q.2.bnd.mono fun ss c2 H2 p2 q2 xs A nd n ok => by
    refine q2.2 H2 (Po.refl ((S.after p).after p2)) _ A nd (fun a ha => p.none a (n a ha)) (.val (rx.mono ?_) ok)
    exact le_hid (fun b o nb e t => p2.keep b o e t fun z => nb (.inl (S.cM b z))) fun b z => z.elim .inl fun z => .inr (n b z)⟩⟩
theorem rm_own (he : RF X T W e f) (hr : RM X T W es fm) (hs : starEach (e :: es) X.env = (false, eval e X.env) :: starEach es X.env := by rfl) : RM X T W (e :: es) (mOwn f fm) :=
  pa_imp (pa_cons he hr hs) fun σ H Q ⟨g, env, cv, S, r⟩ => ⟨g, env, cv, S, r.bnd.mono fun d c1 H1 p q a n t => by
    obtain ⟨o, ho, di⟩ := t.some
    have S1 : SR (gx X T) (g.add fun b => b = a) σ H1 env c1 := S.afterM p (fun b z => by rw [z]; exact n) fun b z => ⟨o, by rw [z]; exact ho⟩
    have nc : g.c ≠ some a := fun z => S.newM n (.inl (S.cM a z))
    refine ⟨g.add fun b => b = a, env, c1, S1, (ROut.add q.2.bnd).mono fun ss c2 H2 p2 q2 xs A nd m ok => ?_⟩
    have p2' : Po (gx X T) g H1 H2 c2 := p2.sub
    refine q2.2 H2 (Po.refl ((S.after p).after p2')) _ (a :: A) (List.nodup_cons.mpr ⟨fun z => ?_, nd⟩) (fun b z => ?_) (.own ?_ (SlsOk.mono (g := g.add fun b => b = a) (g' := g) rfl ?_ (fun _ _ _ e => e) ok))
    · have := m a z
      rw [ho] at this; cases this
    · rcases List.mem_cons.mp z with z | z
      · rw [z]; exact n
      · exact p.none b (m b z)
    · refine t.mono (le_hid (fun b o nb e t => p2.keep b o e t fun z => nb (.inl (.inl (S.cM b z)))) fun b z => ?_) fun u e => ?_
      · rcases z with z | z
        · exact .inl (.inl z)
        · rcases List.mem_cons.mp z with z | z
          · exact .inl (.inr z)
          · exact .inr (m b z)
      · rw [ho] at e; cases e
        exact p2.keep a _ ho (fun ps z => by subst z; exact di) nc
    · refine le_hid (fun b o _ e _ => e) fun b z => .inl ?_
      rcases z with (z | z) | z
      · exact .inl (.inl (.inl z))
      · exact .inl (.inr z)
      · rcases List.mem_cons.mp z with z | z
        · exact .inl (.inl (.inr z))
        · exact .inr z⟩
end
/-! ### several slots stored -/
section
variable {Γ : Gx} {W : WX} {fr : Bool} {g : Gh} {σ : St} {H H1 : Hp} {env : Ev} {cv c1 : Cv} {x : V} {d : Va} {i : Nat} {a : Addr}
def setS : St → List Nat → List V → St
  | σ, i :: is, x :: xs => setS (σ.set i (some x)) is xs
  | σ, _, _ => σ
def setE : Ev → List Nat → List Sl → Ev
  | env, i :: is, s :: ss => setE (env.set i s) is ss
  | env, _, _ => env
/-- an object set aside becomes a slot's own -/
theorem SR.takeOwn {A : Addr → Prop} {M0 : Addr → Prop} (S : SR Γ (g.add fun b => b = a ∨ A b) σ H env cv) (hc : ∀ b, g.c = some b → g.M b) (nA : ¬ A a) (nM : ¬ g.M a) (z0 : g.H0 a = none) (sub : ∀ b, Mt (g.add fun b => b = a ∨ A b) σ env b → M0 b) (t : Top Γ g (hid H M0) H a d) :
    SR Γ (g.add A) (σ.set i (some (.ref a))) H (env.set i (.own d)) cv ∧ ∀ b, Ow (σ.set i (some (.ref a))) (env.set i (.own d)) b → b = a ∨ Ow σ env b := by
  have sub1 : ∀ b, Ow (σ.set i (some (.ref a))) (env.set i (.own d)) b → b = a ∨ Ow σ env b := fun b h => by
    rcases ow_set h with ⟨_, _, z⟩ | h
    · cases z; exact .inl rfl
    · exact .inr h
  have sub2 : ∀ b, Mt (g.add A) (σ.set i (some (.ref a))) (env.set i (.own d)) b → Mt (g.add fun b => b = a ∨ A b) σ env b := fun b z => by
    rcases z with (z | z) | z
    · exact .inl (.inl z)
    · exact .inl (.inr (.inr z))
    · rcases sub1 b z with z | z
      · exact .inl (.inr (.inl z))
      · exact .inr z
  have l : Le (hid H (Mt (g.add fun b => b = a ∨ A b) σ env)) (hid H (Mt (g.add A) (σ.set i (some (.ref a))) (env.set i (.own d)))) := le_hid (fun b o _ e _ => e) fun b z => .inl (sub2 b z)
  have l2 : Le (hid H M0) (hid H (Mt (g.add A) (σ.set i (some (.ref a))) (env.set i (.own d)))) := le_hid (fun b o _ e _ => e) fun b z => .inl (sub b (sub2 b z))
  have noOw : ¬ Ow σ env a := fun ⟨j, e, h1, h2⟩ => by
    obtain ⟨a', e2, n, _⟩ := S.own j e h1
    rw [h2] at e2; cases e2
    exact n (.inr (.inl rfl))
  refine ⟨⟨by simp [S.len], fun j e h => ?_, fun j e h => ?_, fun j e h => ?_, raw_set S.raw (fun _ z => nomatch z), fun j k e1 e2 b h1 h2 h3 h4 => ?_, S.cst, fun b z => .inl (hc b z), fun b z => ?_, S.ent, S.there, S.tabs, fun g0 e => ⟨(S.lb g0 e).c, (S.lb g0 e).H0, fun b z => ⟨?_, ((S.lb g0 e).sub b z).2⟩, fun b z => (S.lb g0 e).sup b (z.imp id .inr)⟩⟩, sub1⟩
  · rcases get_set h with ⟨q, e1⟩ | ⟨q, e1⟩
    · cases e1
    · obtain ⟨y, e2, r⟩ := S.val j e e1
      exact ⟨y, by rw [List.getElem?_set_ne q]; exact e2, r.mono l⟩
  · rcases get_set h with ⟨q, e1⟩ | ⟨q, e1⟩
    · cases e1
      subst q
      have hl : i < σ.length := by
        rw [S.len]
        have := List.getElem?_eq_some_iff.mp h
        simpa using this.1
      exact ⟨a, List.getElem?_set_self hl, fun z => z.elim nM nA, z0, t.mono l2 fun _ e => e⟩
    · obtain ⟨y, e2, n1, z, t1⟩ := S.own j e e1
      exact ⟨y, by rw [List.getElem?_set_ne q]; exact e2, fun z => n1 (z.imp id .inr), z, t1.mono l fun o eo => eo⟩
  · rcases get_set h with ⟨q, e1⟩ | ⟨q, e1⟩
    · cases e1
    · obtain ⟨y, e2, r⟩ := S.bor j e e1
      exact ⟨y, by rw [List.getElem?_set_ne q]; exact e2, RepB.mono (g := g) l (fun _ _ e _ _ => e) r⟩
  · rcases get_set h1 with ⟨q, e1⟩ | ⟨q, e1⟩ <;> rcases get_set h2 with ⟨q2, e2⟩ | ⟨q2, e2⟩
    · exact q.symm.trans q2
    · exfalso
      subst q
      rw [List.getElem?_set_ne q2] at h4
      rcases get_set h3 with ⟨_, e⟩ | ⟨z, _⟩
      · cases e; exact noOw ⟨k, _, e2, h4⟩
      · exact z rfl
    · exfalso
      subst q2
      rw [List.getElem?_set_ne q] at h3
      rcases get_set h4 with ⟨_, e⟩ | ⟨z, _⟩
      · cases e; exact noOw ⟨j, _, e1, h3⟩
      · exact z rfl
    · rw [List.getElem?_set_ne q] at h3
      rw [List.getElem?_set_ne q2] at h4
      exact S.sep j k _ _ b e1 e2 h3 h4
  · rcases z with z | z
    · exact S.mt b (.inl z)
    · exact S.mt b (.inr (.inr z))
  · rcases ((S.lb g0 e).sub b z).1 with w | w | w
    · exact .inl w
    · exfalso
      refine ((S.lb g0 e).sub b z).2 ?_
      rw [w, ← (S.lb g0 e).H0]
      exact z0
    · exact .inr w
theorem SR.keepVal {A : Addr → Prop} {M0 : Addr → Prop} (S : SR Γ (g.add A) σ H env cv) (sub : ∀ b, Mt (g.add A) σ env b → M0 b) (r : RepA Γ g (hid H M0) x d) :
    SR Γ (g.add A) (σ.set i (some x)) H (env.set i (.val d)) cv ∧ ∀ b, Ow (σ.set i (some x)) (env.set i (.val d)) b → Ow σ env b :=
  ⟨(SR.setVal S (Rep.mono (le_hid (fun b o _ e _ => e) fun b z => .inl (sub b z)) r)).sr, fun b h => by
    rcases ow_set h with ⟨_, z, _⟩ | h
    · cases z
    · exact h⟩
theorem SR.sets {M0 : Addr → Prop} (hc : ∀ b, g.c = some b → g.M b) : ∀ {is : List Nat} {xs : List V} {ss : List Sl} {A : List Addr} {σ : St} {env : Ev}, is.length = ss.length → SR Γ (g.add fun b => b ∈ A) σ H env cv → A.Nodup → (∀ a ∈ A, ¬ g.M a ∧ g.H0 a = none) →
    (∀ b, Mt (g.add fun b => b ∈ A) σ env b → M0 b) → SlsOk Γ g (hid H M0) H xs ss A → SR Γ g (setS σ is xs) H (setE env is ss) cv ∧ ∀ b, Ow (setS σ is xs) (setE env is ss) b → Ow σ env b ∨ b ∈ A
  | is, xs, ss, A, σ, env, hl, S, nd, n, sub, ok => by
    cases ok with
    | nil =>
      cases is with
      | cons i is => simp at hl
      | nil =>
        refine ⟨?_, fun b h => .inl h⟩
        have e : (fun b : Addr => b ∈ ([] : List Addr)) = fun _ => False := by funext b; simp
        rw [e, Gh.add_no] at S
        exact S
    | @val x d xs ss A r t =>
      cases is with
      | nil => simp at hl
      | cons i is =>
        obtain ⟨S1, o1⟩ := SR.keepVal (i := i) S sub r
        obtain ⟨S2, o2⟩ := SR.sets hc (is := is) (by simpa using hl) S1 nd n (fun b z => sub b (z.imp id (o1 b))) t
        exact ⟨S2, fun b h => (o2 b h).imp (o1 b) id⟩
    | @own a d xs ss A r t =>
      cases is with
      | nil => simp at hl
      | cons i is =>
        have e : (fun b : Addr => b ∈ a :: A) = fun b => b = a ∨ b ∈ A := by funext b; simp
        rw [e] at S sub
        obtain ⟨n1, n2⟩ := List.nodup_cons.mp nd
        obtain ⟨m1, m2⟩ := n a (by simp)
        obtain ⟨S1, o1⟩ := SR.takeOwn (i := i) S hc n1 m1 m2 sub r
        obtain ⟨S2, o2⟩ := SR.sets hc (is := is) (by simpa using hl) S1 n2 (fun b z => n b (by simp [z])) (fun b z => sub b (by
          rcases z with (z | z) | z
          · exact .inl (.inl z)
          · exact .inl (.inr (.inr z))
          · rcases o1 b z with z | z
            · exact .inl (.inr (.inl z))
            · exact .inr z)) t
        refine ⟨S2, fun b h => ?_⟩
        rcases o2 b h with h | h
        · rcases o1 b h with h | h
          · exact .inr (by simp [h])
          · exact .inl h
        · exact .inr (by simp [h])
theorem SlsOk.there {Hh : Hp} {xs : List V} {ss : List Sl} {A : List Addr} (h : SlsOk Γ g Hh H xs ss A) : ∀ a ∈ A, ∃ o, H a = some o := by
  induction h with
  | nil => intro a h; simp at h
  | val _ _ ih => exact ih
  | own t _ ih =>
    intro a h
    rcases List.mem_cons.mp h with h | h
    · subst h
      obtain ⟨o, e, _⟩ := t.some
      exact ⟨o, e⟩
    · exact ih a h
theorem SPo.sets (S : SR Γ g σ H env cv) (p : Po Γ g H H1 c1) {is : List Nat} {xs : List V} {ss : List Sl} {A : List Addr} (hl : is.length = ss.length) (nd : A.Nodup) (n : ∀ a ∈ A, H a = none) (ok : SlsOk Γ g (hid H1 (MtA g σ env A)) H1 xs ss A) :
    SPo Γ g σ H env (setS σ is xs) H1 (setE env is ss) c1 := by
  obtain ⟨S2, o2⟩ := SR.sets (is := is) (M0 := MtA g σ env A) S.cM hl (S.afterM p n ok.there) nd (fun a h => ⟨fun z => S.newM (n a h) (.inl z), S.new0 (n a h)⟩) (fun b z => by
    rcases z with (z | z) | z
    · exact .inl (.inl z)
    · exact .inr z
    · exact .inl (.inr z)) ok
  exact ⟨S2, fun b o e t m _ => p.keep b o e t m, p.there, fun b h => (o2 b h).imp id (n b)⟩
end
/-! ### a, b = x, y -/
section
variable {X : Cx} {T : Gt} {W : WX} {fr : Bool} {e a b c : Expr} {fm : SM} {pos : Pos}
def sPars (is : List Nat) (fm : SM) : SS := fun env c => (fm env c).sbind env fun ss c1 => if is.length = ss.length then .nx (setE env is ss) c1 else .stk
theorem vals2 {Γ : Gx} {g : Gh} {Hh H : Hp} {xs : List V} {ss : List Sl} {A : List Addr} (ok : SlsOk Γ g Hh H xs ss A) (h : 2 = ss.length) : ∃ x y, xs = [x, y] := by
  have := ok.len
  rw [← h] at this
  match xs, this with
  | [x, y], _ => exact ⟨x, y, rfl⟩
theorem vals3 {Γ : Gx} {g : Gh} {Hh H : Hp} {xs : List V} {ss : List Sl} {A : List Addr} (ok : SlsOk Γ g Hh H xs ss A) (h : 3 = ss.length) : ∃ x y z, xs = [x, y, z] := by
  have := ok.len
  rw [← h] at this
  match xs, this with
  | [x, y, z], _ => exact ⟨x, y, z, rfl⟩
theorem rs_par (jx : JX X W) (i j : Nat) {x y : Str} {px py pt : Pos} {kt k2 pt2} (ha : RM X T W [a, b] fm) (hc : X.calm = true := by rfl) (hi : X.N[i]? = some x := by rfl) (hj : X.N[j]? = some y := by rfl) (hij : i ≠ j := by decide)
    (hx : X.env.scope.names.lookup x = some .local := by rfl) (hy : X.env.scope.names.lookup y = some .local := by rfl)
    (hw : swappedStores [.Tuple [.Name x px, .Name y py] kt pt] (.Tuple [a, b] k2 pt2) X.env = pure (some [x, y]) := by rfl)
    (hs : swapsWithSole [.Tuple [.Name x px, .Name y py] kt pt] (.Tuple [a, b] k2 pt2) pos.line X.env = pure false := by rfl) :
    RS X T W fr (.Assign [.Tuple [.Name x px, .Name y py] kt pt] (.Tuple [a, b] k2 pt2) pos) (sPars [i, j] fm) :=
  ps_imp (ps_par hc jx.nd hi hj hij hx hy ha hw hs) fun D σ H ⟨g, env, cv, S, r⟩ => ⟨g, env, cv, S, (SOut.bnd0 S r).mono fun ss c1 H1 p q xs A nd n ok => by
    split at q
    · rename_i hl
      obtain ⟨v, w, e⟩ := vals2 ok hl
      subst e
      exact ⟨v, w, rfl, q.2 _ _ (SPo.sets (is := [i, j]) S p hl nd n ok)⟩
    · exact q.2.elim⟩
theorem rs_par3 (jx : JX X W) (i j l : Nat) {x y z : Str} {px py pz pt : Pos} {kt k2 pt2} (ha : RM X T W [a, b, c] fm) (hc : X.calm = true := by rfl) (hi : X.N[i]? = some x := by rfl) (hj : X.N[j]? = some y := by rfl) (hl : X.N[l]? = some z := by rfl) (hij : i ≠ j := by decide)
    (hil : i ≠ l := by decide) (hjl : j ≠ l := by decide) (hx : X.env.scope.names.lookup x = some .local := by rfl) (hy : X.env.scope.names.lookup y = some .local := by rfl) (hz : X.env.scope.names.lookup z = some .local := by rfl)
    (hw : swappedStores [.Tuple [.Name x px, .Name y py, .Name z pz] kt pt] (.Tuple [a, b, c] k2 pt2) X.env = pure (some [x, y, z]) := by rfl)
    (hs : swapsWithSole [.Tuple [.Name x px, .Name y py, .Name z pz] kt pt] (.Tuple [a, b, c] k2 pt2) pos.line X.env = pure false := by rfl) :
    RS X T W fr (.Assign [.Tuple [.Name x px, .Name y py, .Name z pz] kt pt] (.Tuple [a, b, c] k2 pt2) pos) (sPars [i, j, l] fm) :=
  ps_imp (ps_par3 hc jx.nd hi hj hl hij hil hjl hx hy hz ha hw hs) fun D σ H ⟨g, env, cv, S, r⟩ => ⟨g, env, cv, S, (SOut.bnd0 S r).mono fun ss c1 H1 p q xs A nd n ok => by
    split at q
    · rename_i hl
      obtain ⟨u, v, w, e⟩ := vals3 ok hl
      subst e
      exact ⟨u, v, w, rfl, q.2 _ _ (SPo.sets (is := [i, j, l]) S p hl nd n ok)⟩
    · exact q.2.elim⟩
end
end G

set_option Elab.async false
set_option linter.all false
set_option maxRecDepth 100000
set_option maxHeartbeats 2000000
namespace G
set_option autoImplicit false
open PySem PySem.Spec PyProof.Rows L2

/-! ### targets -/
structure RG (X : Cx) (tg : Expr) (is : List Nat) (t : Va → Option (List Va)) : Prop where
  len : ∀ d ds, t d = some ds → ds.length = is.length
  run : PG X tg fun v σ H Q => ∃ mg c Hh d ds, Rep X.K mg c Hh v d ∧ Le Hh H ∧ t d = some ds ∧ ∀ xs, RepL X.K mg c Hh xs ds → Q (setS σ is xs) H
structure RGs (X : Cx) (tgs : List Expr) (is : List Nat) (t : List Va → Option (List Va)) : Prop where
  len : ∀ d ds, t d = some ds → ds.length = is.length
  run : PGs X tgs fun vs σ H Q => ∃ mg c Hh d ds, RepL X.K mg c Hh vs d ∧ Le Hh H ∧ t d = some ds ∧ ∀ xs, RepL X.K mg c Hh xs ds → Q (setS σ is xs) H
theorem pg_imp {X : Cx} {tg : Expr} {t t' : TG} (h : PG X tg t) (i : ∀ v σ H Q, t' v σ H Q → t v σ H Q) : PG X tg t' := ⟨fun pins s σ H v u Q I r q => h.run pins s σ H v u Q I r (i v σ H Q q)⟩
theorem pgs_imp {X : Cx} {tg : List Expr} {t t' : TGs} (h : PGs X tg t) (i : ∀ v σ H Q, t' v σ H Q → t v σ H Q) : PGs X tg t' := ⟨fun pins s σ H v u Q I r q => h.run pins s σ H v u Q I r (i v σ H Q q)⟩
theorem setS_app : ∀ {is : List Nat} {xs : List V} {σ : St} {js : List Nat} {ys : List V}, xs.length = is.length → setS σ (is ++ js) (xs ++ ys) = setS (setS σ is xs) js ys
  | [], [], _, _, _, _ => rfl
  | [], _ :: _, _, _, _, h => by simp at h
  | _ :: _, [], _, _, _, h => by simp at h
  | i :: is, x :: xs, σ, js, ys, h => by
    show setS (σ.set i (some x)) (is ++ js) (xs ++ ys) = setS (setS (σ.set i (some x)) is xs) js ys
    exact setS_app (by simpa using h)
def tN : Va → Option (List Va) := fun d => some [d]
def tT (ts : List Va → Option (List Va)) : Va → Option (List Va)
  | .tup ds => ts ds
  | _ => none
def tsN : List Va → Option (List Va)
  | [] => some []
  | _ => none
def tsC (t : Va → Option (List Va)) (ts : List Va → Option (List Va)) : List Va → Option (List Va)
  | d :: ds => match t d with
    | none => none
    | some es => match ts ds with
      | none => none
      | some fs => some (es ++ fs)
  | [] => none
theorem tsC_eq {t : Va → Option (List Va)} {ts : List Va → Option (List Va)} : ∀ {l r : List Va}, tsC t ts l = some r → ∃ d ds es fs, l = d :: ds ∧ t d = some es ∧ ts ds = some fs ∧ r = es ++ fs
  | [], r, h => by cases h
  | d :: ds, r, h => by
    simp only [tsC] at h
    split at h
    · cases h
    · split at h
      · cases h
      · cases h
        exact ⟨_, _, _, _, rfl, by assumption, by assumption, rfl⟩
section
variable {X : Cx} {W : WX} {tg : Expr} {tgs : List Expr} {is js : List Nat} {t : Va → Option (List Va)} {ts : List Va → Option (List Va)} {pos : Pos}
theorem rg_name (nd : X.N.Nodup) (i : Nat) {x : Str} (hi : X.N[i]? = some x := by rfl) (hx : Loc X.env.scope x := by first | exact .inl rfl | exact .inr rfl) (hf : X.fn x = true ∨ X.env.scope.names.lookup x = some .local := by first | exact .inl rfl | exact .inr rfl) : RG X (.Name x pos) [i] tN where
  len := fun d ds h => by cases h; rfl
  run := pg_imp (pg_name nd hi hx hf) fun v σ H Q ⟨mg, c, Hh, d, ds, r, l, e, q⟩ => by
    cases e
    exact q [v] (.cons r .nil)
theorem rgs_nil : RGs X [] [] tsN where
  len := fun d ds h => by
    cases d with
    | nil => cases h; rfl
    | cons d ds => cases h
  run := pgs_imp pgs_nil fun v σ H Q ⟨mg, c, Hh, d, ds, r, l, e, q⟩ => by
    cases r with
    | nil => cases e; exact ⟨rfl, q [] .nil⟩
    | cons r r' => cases e
theorem rgs_cons (h1 : RG X tg is t) (h2 : RGs X tgs js ts) (hs : (assignEach (tg :: tgs) X.env).map (·.2) = assign tg X.env :: (assignEach tgs X.env).map (·.2) := by rfl) : RGs X (tg :: tgs) (is ++ js) (tsC t ts) where
  len := fun d ds h => by
    obtain ⟨d, ds', es, fs, rfl, e1, e2, rfl⟩ := tsC_eq h
    rw [List.length_append, List.length_append, h1.len _ _ e1, h2.len _ _ e2]
  run := pgs_imp (pgs_cons h1.run h2.run hs) fun v σ H Q ⟨mg, c, Hh, d, ds, r, l, e, q⟩ => by
    obtain ⟨d, ds', es, fs, rfl, e1, e2, rfl⟩ := tsC_eq e
    cases r with
    | cons r r' =>
      refine ⟨_, _, rfl, mg, c, Hh, d, es, r, l, e1, fun ys ry => ⟨mg, c, Hh, ds', fs, r', l, e2, fun zs rz => ?_⟩⟩
      have h := q (ys ++ zs) (ry.append rz)
      rw [setS_app (by rw [ry.length, h1.len _ _ e1])] at h
      exact h
theorem rg_tup {k : Nat} {n : Nat} (h : RGs X tgs is ts) (hc : X.calm = true := by rfl) (hl : ∀ ds es, ts ds = some es → ds.length = n) (hn : (assignEach tgs X.env).length = n := by rfl) (hst : (assignEach tgs X.env).findIdx? (·.1) = none := by rfl) : RG X (.Tuple tgs k pos) is (tT ts) where
  len := fun d ds e => by
    cases d <;> first | cases e | exact h.len _ _ e
  run := pg_imp (pg_tup hc h.run hn hst) fun v σ H Q ⟨mg, c, Hh, d, ds, r, l, e, q⟩ => by
    cases d with
    | tup es =>
      cases r with
      | tup hh rr => exact ⟨_, _, rfl, .inl (.inl (l.2 _ _ trivial hh)), by rw [rr.length]; exact hl _ _ e, mg, c, Hh, _, _, rr, l, e, q⟩
    | _ => cases e
theorem tsN_len {ds es : List Va} (h : tsN ds = some es) : ds.length = 0 := by
  cases ds with
  | nil => rfl
  | cons d ds => cases h
theorem tsC_len {n : Nat} (hl : ∀ ds es, ts ds = some es → ds.length = n) : ∀ ds es, tsC t ts ds = some es → ds.length = n + 1 := fun ds es h => by
  obtain ⟨d, ds', es, fs, rfl, e1, e2, rfl⟩ := tsC_eq h
  simp [hl _ _ e2]
end

/-! ### what is walked -/
structure ItS (Γ : Gx) (g : Gh) (Hv : Hp) (J : It) (ds : List Va) : Prop where
  ex : ∃ (G : Hp → Prop) (Y : Nat → Hp → V → Hp → Prop), Walk J ds.length G Y ∧ (∀ H', Le Hv H' → G H') ∧ ∀ i H1 x H', i < ds.length → Le Hv H1 → Y i H1 x H' →
    (∀ b o, H1 b = some o → H' b = some o) ∧ ∃ d, ds[i]? = some d ∧ ∀ Hh, Le Hv Hh → (∀ b o, H1 b = none → H' b = some o → Hh b = some o) → RepA Γ g Hh x d
abbrev SI := Ev → Cv → Re (List Va)
def TIt (Γ : Gx) (W : WX) (f : SI) : TI := fun σ H R => ∃ g env cv, SR Γ g σ H env cv ∧ ROut Γ W g σ H (fun ds c1 H1 => ∀ J, ItS Γ g (hid H1 (Mt g σ env)) J ds → R J H1) (f env cv)
def RI (X : Cx) (T : Gt) (W : WX) (tg e : Expr) (f : SI) : Prop := PI X tg e (TIt (gx X T) W f)
theorem pi_imp {X : Cx} {tg e : Expr} {t t' : TI} (h : PI X tg e t) (i : ∀ σ H R, t' σ H R → t σ H R) : PI X tg e t' := ⟨fun pins s σ H R I q => h.run pins s σ H R I (i σ H R q)⟩
theorem pi_or {X : Cx} {tg e : Expr} {t t' : TI} (h : PI X tg e t) (h' : PI X tg e t') : PI X tg e (fun σ H R => t σ H R ∨ t' σ H R) := ⟨fun pins s σ H R I q => q.elim (h.run pins s σ H R I) (h'.run pins s σ H R I)⟩
section
variable {Γ : Gx} {g : Gh} {Hv H' : Hp} {a b : Addr} {xs : List V} {ds : List Va} {ns : List Int}
theorem its_at {J : It} {G : Hp → Prop} (w : Walk J ds.length G (YAt xs)) (hG : ∀ H', Le Hv H' → G H') (r : RepLA Γ g Hv xs ds) : ItS Γ g Hv J ds :=
  ⟨G, _, w, hG, fun i H1 x H' hi l y => by
    obtain ⟨rfl, y⟩ := y
    obtain ⟨d, e, rx⟩ := r.get y
    exact ⟨fun _ _ e => e, d, e, fun Hh l2 _ => rx.mono l2⟩⟩
theorem its_lst {K : PySem.W.Frag} (h : SqL K Hv a xs) (r : RepLA Γ g Hv xs ds) : ItS Γ g Hv (Itl K a) ds := its_at (by rw [← r.length]; exact walk_list) (fun H' l => l.sqL h) r
theorem its_tup {K : PySem.W.Frag} (h : SqT K Hv a xs) (r : RepLA Γ g Hv xs ds) : ItS Γ g Hv (Itt K a) ds := its_at (by rw [← r.length]; exact walk_tup) (fun H' l => l.sqT h) r
/-- ints -/
def upI (lo : Int) (n : Nat) : List Va := (List.range n).map fun i => .int (lo + (i : Nat))
theorem its_rng {lo : Int} {n : Nat} : ItS Γ g Hv (Itr lo n) (upI lo n) :=
  ⟨fun _ => True, _, by rw [show (upI lo n).length = n by simp [upI]]; exact walk_range, fun _ _ => trivial, fun i H1 x H' hi l y => by
    obtain ⟨rfl, rfl⟩ := y
    have hi' : i < n := by simpa [upI] using hi
    exact ⟨fun _ _ e => e, .int (lo + i), by simp [upI, hi'], fun _ _ _ => .int _⟩⟩
def upC (lo c : Int) (n : Nat) : List Va := (List.range n).map fun i => .int (lo + (i : Nat) * c)
theorem its_rngC {lo c : Int} {n : Nat} : ItS Γ g Hv (Itc lo c n) (upC lo c n) :=
  ⟨fun _ => True, _, by rw [show (upC lo c n).length = n by simp [upC]]; exact walk_rangeC, fun _ _ => trivial, fun i H1 x H' hi l y => by
    obtain ⟨rfl, rfl⟩ := y
    have hi' : i < n := by simpa [upC] using hi
    exact ⟨fun _ _ e => e, .int (lo + (i : Nat) * c), by simp [upC, hi'], fun _ _ _ => .int _⟩⟩
def chars (x : Str) : List Va := x.cps.toList.map fun c => .str ⟨#[c]⟩
theorem its_str {x : Str} : ItS Γ g Hv (Its x) (chars x) :=
  ⟨fun _ => True, _, by rw [show (chars x).length = x.cps.size by simp [chars]]; exact walk_str, fun _ _ => trivial, fun i H1 y H' hi l q => by
    obtain ⟨rfl, c, e, rfl⟩ := q
    refine ⟨fun _ _ e => e, .str ⟨#[c]⟩, ?_, fun _ _ _ => .str _⟩
    have : x.cps.toList[i]? = some c := by rw [Array.getElem?_toList]; exact e
    simp [chars, this]⟩
/-- pairs -/
theorem its_pair {J : It} {G : Hp → Prop} {n : Nat} {p q : Nat → Option V} {es : List Va} (hn : es.length = n) (w : Walk J n G (YPair p q)) (hG : ∀ H', Le Hv H' → G H')
    (hr : ∀ i x y, i < n → p i = some x → q i = some y → ∃ d e, es[i]? = some (.tup [d, e]) ∧ RepA Γ g Hv x d ∧ RepA Γ g Hv y e) : ItS Γ g Hv J es :=
  ⟨G, _, by rw [hn]; exact w, hG, fun i H1 v H' hi l y => by
    obtain ⟨T, x, z, rfl, hT, rfl, e1, e2⟩ := y
    obtain ⟨d, e, e3, r1, r2⟩ := hr i x z (by rw [← hn]; exact hi) e1 e2
    exact ⟨fun b o e => by rw [upd_ne (ne_of_none e hT)]; exact e, _, e3, fun Hh l2 k => .tup (k T _ hT upd_same) (.cons (r1.mono l2) (.cons (r2.mono l2) .nil))⟩⟩
def zipA (ds es : List Va) : List Va := List.zipWith (fun d e => .tup [d, e]) ds es
def enumA (ds : List Va) : List Va := ds.mapIdx fun i d => .tup [.int (i : Nat), d]
theorem its_enum {K : PySem.W.Frag} (h : SqL K Hv a xs) (r : RepLA Γ g Hv xs ds) : ItS Γ g Hv (Ite K a) (enumA ds) :=
  its_pair (by simp [enumA, r.length]) walk_enum (fun H' l => l.sqL h) fun i x y hi e1 e2 => by
    cases e1
    obtain ⟨d, e, rx⟩ := r.get e2
    exact ⟨_, d, by simp [enumA, e], .int _, rx⟩
end
section
variable {X : Cx} {T : Gt} {W : WX} {tg e e2 : Expr} {f h : SE} {pos : Pos}
def vIt : Va → Option (List Va)
  | .lst ds => some ds
  | .tup ds => some ds
  | .scr ns => some (ns.map .int)
  | .str x => some (chars x)
  | _ => none
def iVal (f : SE) : SI := fun env c => (f env c).bind fun d c1 => match vIt d with
  | some ds => .ok ds c1
  | none => .stk
theorem ri_val (he : RE X T W e f) : RI X T W tg e (iVal f) :=
  pi_imp (pi_or (pi_or (pi_list he) (pi_tup he)) (pi_str he)) fun σ H R ⟨g, env, cv, S, r⟩ => by
    cases q : f env cv with
    | stk => unfold iVal at r; rw [q] at r; exact r.elim
    | exn x c =>
      unfold iVal at r; rw [q] at r
      exact .inl (.inl ⟨g, env, cv, S, by rw [q]; exact r⟩)
    | ok d c =>
      unfold iVal at r; rw [q] at r
      cases d with
      | lst ds =>
        refine .inl (.inl ⟨g, env, cv, S, ?_⟩)
        rw [q]
        intro H1 p x rx
        cases rx with
        | lst hh rr => exact ⟨_, rfl, ⟨_, .inl (.inl (hid_some hh).2)⟩, r H1 p _ (its_lst (.inl (.inl hh)) rr)⟩
      | scr ns =>
        refine .inl (.inl ⟨g, env, cv, S, ?_⟩)
        rw [q]
        intro H1 p x rx
        cases rx with
        | scr hh => exact ⟨_, rfl, ⟨_, le_hid_of.sqL hh⟩, r H1 p _ (its_lst hh (RepL.ofInts ns))⟩
      | tup ds =>
        refine .inl (.inr ⟨g, env, cv, S, ?_⟩)
        rw [q]
        intro H1 p x rx
        cases rx with
        | tup hh rr => exact ⟨_, rfl, ⟨_, .inl (.inl (hid_some hh).2)⟩, r H1 p _ (its_tup (.inl (.inl hh)) rr)⟩
      | str y =>
        refine .inr ⟨g, env, cv, S, ?_⟩
        rw [q]
        intro H1 p x rx
        cases rx
        exact ⟨_, rfl, r H1 p _ its_str⟩
      | _ => exact r.elim
def okR (i : Int) : Bool := decide (i.natAbs < 4611686018427387904)
theorem okR_eq {i : Int} (h : okR i = true) : -(2 ^ 62) ≤ i ∧ i < 2 ^ 62 := by
  have := of_decide_eq_true h
  constructor <;> omega
def iRange1 (f : SE) : SI := fun env c => (f env c).bind fun d c1 => match d with
  | .int j => if okR j then .ok (upI 0 j.toNat) c1 else .stk
  | _ => .stk
def iRange2 (f h : SE) : SI := fun env c => (f env c).bind fun d c1 => (h env c1).bind fun d2 c2 => match d, d2 with
  | .int i, .int j => if okR i && okR j then .ok (upI i (j - i).toNat) c2 else .stk
  | _, _ => .stk
theorem ri_range1 (ha : RE X T W e f) (hm : X.mg "range" = none) (hg : Gl X "range" := by rfl) {p : Pos} (hs : starEach [e] X.env = [(false, eval e X.env)] := by rfl) (hs1 : starEach [e] X.env = (false, eval e X.env) :: starEach [] X.env := by rfl) : RI X T W tg (.Call (.Name "range" p) [e] [] pos) (iRange1 f) :=
  pi_imp (pi_range1 hg hm (pa_cons ha pa_nil hs1) hs) fun σ H R ⟨g, env, cv, S, r⟩ => ⟨g, env, cv, S, r.bnd.mono fun d c1 H1 p q x rx => by
    show ∃ j : Int, _
    cases d with
    | int j =>
      have q2 := q.2
      cases hj : okR j with
      | false => simp only [hj] at q2; exact q2.elim
      | true =>
        simp only [hj, if_true] at q2
        cases rx
        have := okR_eq hj
        exact ⟨j, rfl, this.1, this.2, q2 H1 (Po.refl (S.after p)) _ its_rng⟩
    | _ => exact q.2.elim⟩
theorem ri_range2 (ha : RE X T W e f) (hb : RE X T W e2 h) (hm : X.mg "range" = none) (hg : Gl X "range" := by rfl) {p : Pos} (hs : starEach [e, e2] X.env = [(false, eval e X.env), (false, eval e2 X.env)] := by rfl) (hs2 : starEach [e2] X.env = [(false, eval e2 X.env)] := by rfl)
    (hs3 : starEach [e, e2] X.env = (false, eval e X.env) :: starEach [e2] X.env := by rfl) (hs4 : starEach [e2] X.env = (false, eval e2 X.env) :: starEach [] X.env := by rfl) : RI X T W tg (.Call (.Name "range" p) [e, e2] [] pos) (iRange2 f h) :=
  pi_imp (pi_range2 hg hm (pa_cons ha (pa_cons hb pa_nil hs4) hs3) hs hs2) fun σ H R ⟨g, env, cv, S, r⟩ => ⟨g, env, cv, S, r.bnd.mono fun d c1 H1 p q x rx => ⟨g, env, c1, S.after p, q.2.bnd.mono fun d2 c2 H2 p2 q y ry => by
    show ∃ i j : Int, _
    have q2 := q.2
    cases d with
    | int i =>
      cases d2 with
      | int j =>
        cases hj : okR i && okR j with
        | false => simp only [hj] at q2; exact q2.elim
        | true =>
          simp only [hj, if_true] at q2
          cases rx; cases ry
          simp only [Bool.and_eq_true] at hj
          have h1 := okR_eq hj.1
          have h2 := okR_eq hj.2
          exact ⟨i, j, rfl, ⟨h1.1, h1.2, h2.1, h2.2⟩, q2 H2 (Po.refl ((S.after p).after p2)) _ its_rng⟩
      | _ => exact q2.elim
    | _ => exact q2.elim⟩⟩
end
end G

set_option Elab.async false
set_option linter.all false
set_option maxRecDepth 100000
set_option maxHeartbeats 2000000
namespace G
set_option autoImplicit false
open PySem PySem.Spec PyProof.Rows L2

section
variable {Γ : Gx} {W : WX} {fr : Bool} {g : Gh} {σ σ' : St} {H H' H1 : Hp} {env env' : Ev} {cv c1 c' : Cv} {D : Ends} {x : V} {d : Va} {i : Nat}
theorem SPo.le (S : SR Γ g σ H env cv) (p : SPo Γ g σ H env σ' H' env' c') : Le (hid H (Mt g σ env)) (hid H' (Mt g σ' env')) :=
  le_hid (fun b o n e t => p.keep b o e t (fun z => n (.inl (S.cM b z))) fun z => n (.inr z)) fun b z => by
    rcases z with z | z
    · exact .inl (.inl z)
    · exact (p.ow b z).imp .inr id
theorem slsV {Hh : Hp} : ∀ {xs : List V} {ds : List Va}, RepLA Γ g Hh xs ds → SlsOk Γ g Hh H xs (ds.map .val) []
  | _, _, .nil => .nil
  | _, _, .cons r t => .val r (slsV t)
theorem Po.ext (S : SR Γ g σ H env cv) (k : ∀ b o, H b = some o → H1 b = some o) : Po Γ g H H1 cv where
  keep := fun b o e _ _ => k b o e
  there := fun b o e => ⟨o, k b o e⟩
  cst := by
    have h := S.cst
    obtain ⟨c, M, H0⟩ := g
    cases c with
    | none => cases cv <;> exact h
    | some a =>
      cases cv with
      | none => exact h
      | some xy => exact k _ _ h
  tabs := S.tabs.ext k
theorem SPo.vals (S : SR Γ g σ H env cv) {is : List Nat} {xs : List V} {ds : List Va} (hl : ds.length = is.length) (r : RepLA Γ g (hid H (Mt g σ env)) xs ds) : SPo Γ g σ H env (setS σ is xs) H (setE env is (ds.map .val)) cv :=
  SPo.sets S (Po.refl S) (is := is) (A := []) (by simp [hl]) List.nodup_nil (by simp) (slsV (r.mono (le_hid (fun b o _ e _ => e) fun b z => .inl (by
    rcases z with z | z
    · exact z
    · simp at z))))
end

/-! ### for -/
def forL (t : Va → Option (List Va)) (is : List Nat) (body : SS) : List Va → SS
  | [], env, c => .nx env c
  | d :: ds, env, c => match t d with
    | none => .stk
    | some es => match body (setE env is (es.map .val)) c with
      | .nx e c => forL t is body ds e c
      | .ct e c => forL t is body ds e c
      | .bk e c => .nx e c
      | .rt d c => .rt d c
      | .exn x e c => .exn x e c
      | .stk => .stk
def sFor (fi : SI) (t : Va → Option (List Va)) (is : List Nat) (body : SS) : SS := fun env c => (fi env c).sbind env fun ds c1 => forL t is body ds env c1
section
variable {X : Cx} {T : Gt} {W : WX} {fr : Bool} {tg iter : Expr} {body : List Stmt} {fi : SI} {fb : SS} {t : Va → Option (List Va)} {is : List Nat} {pos : Pos}
theorem rs_for (j : JX X W) (hi : RI X T W tg iter fi) (hg : RG X tg is t) (hb : RSs X T W fr body fb) (hc : X.calm = true := by rfl) (hs : ∀ x, foldedSetIterable iter X.env x = pure x := by intro _; rfl) :
    RS X T W fr (.For tg iter body [] pos) (sFor fi t is fb) :=
  ps_imp (ps_for j.po hc hi hg.run hb hs) fun D σ H ⟨g, env, cv, S0, r⟩ => ⟨g, env, cv, S0, (SOut.bnd S0 r).mono fun ds c1 H1 p q J it => by
    have S := S0.after p
    obtain ⟨G, Y, w, hG, hY⟩ := it.ex
    have r := q.2
    refine for_it (g := fun v σ H Q => ∃ mg c Hh d ds, Rep X.K mg c Hh v d ∧ Le Hh H ∧ t d = some ds ∧ ∀ xs, RepL X.K mg c Hh xs ds → Q (setS σ is xs) H) (tb := TSD (gx X T) W fr fb) (D := D) w (Pv := fun i σ' H' => ∃ env' c', SPo (gx X T) g σ H1 env σ' H' env' c' ∧ SOut (gx X T) W fr g σ H1 env D (forL t is fb (ds.drop i) env' c')) ⟨env, c1, SPo.refl S, r⟩ (fun i σ' H' _ ⟨env', c', p', _⟩ => hG H' ((p'.le S).trans le_hid_of)) (fun i x σ' H' H2 hi ⟨env', c', p', r'⟩ y => ?_) (fun σ' H' ⟨env', c', p', r'⟩ => ?_)
    · have l1 := p'.le S
      obtain ⟨k2, d, ed, hr⟩ := hY i H' x H2 hi (l1.trans le_hid_of) y
      have P2 := Po.ext p'.sr k2
      have S2 := p'.sr.after P2
      have e : ds.drop i = d :: ds.drop (i + 1) := by
        have hlt : i < ds.length := hi
        rw [List.drop_eq_getElem_cons hlt]
        congr 1
        rw [List.getElem?_eq_getElem hlt] at ed
        exact Option.some.inj ed
      rw [e] at r'
      unfold forL at r'
      cases et : t d with
      | none => rw [et] at r'; exact r'.elim
      | some es =>
        rw [et] at r'
        refine ⟨_, g.c, hid H2 (Mt g σ' env'), d, es, hr _ (l1.trans (P2.le p'.sr)) fun b o e1 e2 => hid_of (fun z => p'.sr.newM e1 z) e2, le_hid_of, et, fun xs rx => ?_⟩
        have q2 := SPo.vals S2 (is := is) (hg.len _ _ et) rx
        have Q2 := (p'.trans (SPo.po p'.sr P2)).trans q2
        refine ⟨g, setE env' is (es.map .val), c', q2.sr, ?_⟩
        cases eb : fb (setE env' is (es.map .val)) c' with
        | nx e c => simp only [eb] at r'; exact fun σ3 H3 p3 => ⟨e, c, Q2.trans p3, r'⟩
        | ct e c => simp only [eb] at r'; exact fun σ3 H3 p3 => ⟨e, c, Q2.trans p3, r'⟩
        | bk e c => simp only [eb] at r'; exact fun σ3 H3 p3 => r' σ3 H3 (Q2.trans p3)
        | rt d c => simp only [eb] at r'; exact fun x H3 p3 => r' x H3 (Q2.ret p3)
        | exn x e c => simp only [eb] at r'; exact fun cls dd σ3 H3 p3 => r' cls dd σ3 H3 (Q2.trans p3)
        | stk => simp only [eb] at r'; exact r'.elim
    · rw [List.drop_eq_nil_of_le (Nat.le_refl _)] at r'
      exact r' σ' H' p'⟩
end
end G

set_option Elab.async false
set_option linter.all false
set_option maxRecDepth 100000
set_option maxHeartbeats 2000000
namespace G
set_option autoImplicit false
open PySem PySem.Spec PyProof.Rows L2 RZ

/-! ### zip, enumerate -/
def lsOf : Va → Option (List Va)
  | .lst ds => some ds
  | .scr ns => some (ns.map .int)
  | _ => none
def tpOf : Va → Option (List Va)
  | .tup ds => some ds
  | _ => none
section
variable {Γ : Gx} {g : Gh} {Hv H' H : Hp} {a b : Addr} {x y : V} {d e : Va} {ds es : List Va}
theorem lsOf_rep (h : lsOf d = some ds) (r : RepA Γ g Hv x d) : ∃ a xs, x = .ref a ∧ SqL Γ.K Hv a xs ∧ RepLA Γ g Hv xs ds := by
  cases d <;> first | cases h | skip
  · cases r with
    | lst hh rr => exact ⟨_, _, rfl, .inl (.inl hh), rr⟩
  · cases r with
    | scr hh => exact ⟨_, _, rfl, hh, RepL.ofInts _⟩
theorem tpOf_rep (h : tpOf d = some ds) (r : RepA Γ g Hv x d) : ∃ a xs, x = .ref a ∧ SqT Γ.K Hv a xs ∧ RepLA Γ g Hv xs ds := by
  cases d <;> first | cases h | skip
  cases r with
  | tup hh rr => exact ⟨_, _, rfl, .inl (.inl hh), rr⟩
theorem walk_zipT {K : PySem.W.Frag} {xs ys : List V} {n : Nat} (hn : n = min xs.length ys.length) : Walk (ItzT K a b) n (fun H => SqT K H a xs ∧ SqT K H b ys) (YPair (fun i => xs[i]?) (fun i => ys[i]?)) := by
  subst hn
  refine ⟨fun i _ hi q => ?_, fun _ q => ⟨xs, ys, q.1, q.2, by omega⟩, fun i H v H' _ q y => ?_⟩
  · have h1 : i < xs.length := by omega
    have h2 : i < ys.length := by omega
    exact ⟨xs, ys, xs[i], ys[i], q.1, q.2, by simp [h1], by simp [h2]⟩
  · obtain ⟨T, x, z, h1, h2, h3, h4, h5⟩ := y
    exact ⟨T, x, z, h1, h2, h3, h4 xs q.1, h5 ys q.2⟩
theorem zip_pair {xs ys : List V} (r1 : RepLA Γ g Hv xs ds) (r2 : RepLA Γ g Hv ys es) (i : Nat) (x y : V) (e1 : xs[i]? = some x) (e2 : ys[i]? = some y) : ∃ d e, (zipA ds es)[i]? = some (.tup [d, e]) ∧ RepA Γ g Hv x d ∧ RepA Γ g Hv y e := by
  obtain ⟨d, h1, q1⟩ := r1.get e1
  obtain ⟨e, h2, q2⟩ := r2.get e2
  exact ⟨d, e, by simp [zipA, List.getElem?_zipWith, h1, h2], q1, q2⟩
theorem its_zip {K : PySem.W.Frag} {xs ys : List V} (h1 : SqL K Hv a xs) (h2 : SqL K Hv b ys) (r1 : RepLA Γ g Hv xs ds) (r2 : RepLA Γ g Hv ys es) : ItS Γ g Hv (Itz K a b) (zipA ds es) :=
  its_pair (n := min xs.length ys.length) (by simp [zipA, r1.length, r2.length]) (walk_zip rfl) (fun H' l => ⟨l.sqL h1, l.sqL h2⟩) fun i x y _ e1 e2 => zip_pair r1 r2 i x y e1 e2
theorem its_zipT {K : PySem.W.Frag} {xs ys : List V} (h1 : SqT K Hv a xs) (h2 : SqT K Hv b ys) (r1 : RepLA Γ g Hv xs ds) (r2 : RepLA Γ g Hv ys es) : ItS Γ g Hv (ItzT K a b) (zipA ds es) :=
  its_pair (n := min xs.length ys.length) (by simp [zipA, r1.length, r2.length]) (walk_zipT rfl) (fun H' l => ⟨l.sqT h1, l.sqT h2⟩) fun i x y _ e1 e2 => zip_pair r1 r2 i x y e1 e2
end
def vZip (d e : Va) : Option (List Va) := match lsOf d with
  | some ds => match lsOf e with
    | some es => some (zipA ds es)
    | none => none
  | none => match tpOf d with
    | some ds => match tpOf e with
      | some es => some (zipA ds es)
      | none => none
    | none => none
theorem vZip_eq {d e : Va} {r : List Va} (h : vZip d e = some r) : (∃ ds es, lsOf d = some ds ∧ lsOf e = some es ∧ r = zipA ds es) ∨ ∃ ds es, tpOf d = some ds ∧ tpOf e = some es ∧ r = zipA ds es := by
  unfold vZip at h
  split at h
  · split at h
    · cases h; exact .inl ⟨_, _, by assumption, by assumption, rfl⟩
    · cases h
  · split at h
    · split at h
      · cases h; exact .inr ⟨_, _, by assumption, by assumption, rfl⟩
      · cases h
    · cases h
def iZip (f h : SE) : SI := fun env c => (f env c).bind fun d c1 => (h env c1).bind fun d2 c2 => match vZip d d2 with
  | some ds => .ok ds c2
  | none => .stk
def iEnu (f : SE) : SI := fun env c => (f env c).bind fun d c1 => match lsOf d with
  | some ds => .ok (enumA ds) c1
  | none => .stk
section
variable {X : Cx} {T : Gt} {W : WX} {tg e e2 : Expr} {elts : List Expr} {kk : Nat} {f h : SE} {p pos tpos : Pos}
theorem ri_zip (ha : RE X T W e f) (hb : RE X T W e2 h) (hm : X.mg "zip" = none) (hg : Gl X "zip" := by rfl) (hs : starEach [e, e2] X.env = (false, eval e X.env) :: starEach [e2] X.env := by rfl) (hs2 : starEach [e2] X.env = (false, eval e2 X.env) :: starEach [] X.env := by rfl)
    (hpl : (backTo pos (starEach [e2] X.env)).any (·.1) = false := by rfl) : RI X T W (.Tuple elts kk tpos) (.Call (.Name "zip" p) [e, e2] [] pos) (iZip f h) :=
  pi_imp (pi_zipA hg hm (pa_cons ha (pa_cons hb pa_nil hs2) hs) hs hpl) fun σ H R ⟨g, env, cv, S, r⟩ => ⟨g, env, cv, S, r.bnd.mono fun d c1 H1 p q x rx => ⟨g, env, c1, S.after p, q.2.bnd.mono fun d2 c2 H2 p2 q y ry => by
    have q2 := q.2
    have S2 := (S.after p).after p2
    have rx2 := rx.mono (p2.le (S.after p))
    cases ez : vZip d d2 with
    | none => rw [ez] at q2; exact q2.elim
    | some r =>
      rw [ez] at q2
      rcases vZip_eq ez with ⟨ds, es, e1, e2, rfl⟩ | ⟨ds, es, e1, e2, rfl⟩
      · obtain ⟨a, xs, rfl, h1, r1⟩ := lsOf_rep e1 rx2
        obtain ⟨b, ys, rfl, h2, r2⟩ := lsOf_rep e2 ry
        exact ⟨a, b, xs, ys, rfl, .inl ⟨le_hid_of.sqL h1, le_hid_of.sqL h2, q2 H2 (Po.refl S2) _ (its_zip h1 h2 r1 r2)⟩⟩
      · obtain ⟨a, xs, rfl, h1, r1⟩ := tpOf_rep e1 rx2
        obtain ⟨b, ys, rfl, h2, r2⟩ := tpOf_rep e2 ry
        exact ⟨a, b, xs, ys, rfl, .inr ⟨le_hid_of.sqT h1, le_hid_of.sqT h2, q2 H2 (Po.refl S2) _ (its_zipT h1 h2 r1 r2)⟩⟩⟩⟩
theorem ri_enum (ha : RE X T W e f) (hm : X.mg "enumerate" = none) (hg : Gl X "enumerate" := by rfl) (hs : starEach [e] X.env = [(false, eval e X.env)] := by rfl) (hs2 : starEach [e] X.env = (false, eval e X.env) :: starEach [] X.env := by rfl) :
    RI X T W (.Tuple elts kk tpos) (.Call (.Name "enumerate" p) [e] [] pos) (iEnu f) :=
  pi_imp (pi_enum hg hm (pa_cons ha pa_nil hs2) hs) fun σ H R ⟨g, env, cv, S, r⟩ => ⟨g, env, cv, S, r.bnd.mono fun d c1 H1 p q x rx => by
    have q2 := q.2
    cases e1 : lsOf d with
    | none => simp only [e1] at q2; exact q2.elim
    | some ds =>
      simp only [e1] at q2
      obtain ⟨a, xs, rfl, h1, r1⟩ := lsOf_rep e1 rx
      exact ⟨a, xs, rfl, le_hid_of.sqL h1, q2 H1 (Po.refl (S.after p)) _ (its_enum h1 r1)⟩⟩
end

/-! ### slots forgotten -/
def wipeE (env : Ev) : List Nat → Ev
  | [] => env
  | v :: vs => (wipeE env vs).set v .un
section
variable {Γ : Gx} {W : WX} {fr : Bool} {g : Gh} {σ σ' : St} {H H' H1 : Hp} {env env' : Ev} {cv c1 c' : Cv} {x : V} {d : Va} {i : Nat}
theorem SR.unset (S : SR Γ g σ H env cv) (i : Nat) : SR Γ g (σ.set i none) H (env.set i .un) cv := by
  have sub : ∀ b, Ow (σ.set i none) (env.set i .un) b → Ow σ env b := fun b h => by
    rcases ow_set h with ⟨_, z, _⟩ | h
    · cases z
    · exact h
  have l : Le (hid H (Mt g σ env)) (hid H (Mt g (σ.set i none) (env.set i .un))) := le_hid (fun b o _ e _ => e) fun b z => .inl (z.imp id (sub b))
  refine ⟨by simp [S.len], fun j e h => ?_, fun j e h => ?_, fun j e h => ?_, raw_set S.raw (fun _ z => nomatch z), fun j k e1 e2 b h1 h2 h3 h4 => ?_, S.cst, S.cM, S.mt, S.ent, S.there, S.tabs, S.lb⟩
  · rcases get_set h with ⟨q, e1⟩ | ⟨q, e1⟩
    · cases e1
    · obtain ⟨y, e2, r⟩ := S.val j e e1
      exact ⟨y, by rw [List.getElem?_set_ne q]; exact e2, r.mono l⟩
  · rcases get_set h with ⟨q, e1⟩ | ⟨q, e1⟩
    · cases e1
    · obtain ⟨y, e2, n, z, t⟩ := S.own j e e1
      exact ⟨y, by rw [List.getElem?_set_ne q]; exact e2, n, z, t.mono l fun _ e => e⟩
  · rcases get_set h with ⟨q, e1⟩ | ⟨q, e1⟩
    · cases e1
    · obtain ⟨y, e2, r⟩ := S.bor j e e1
      exact ⟨y, by rw [List.getElem?_set_ne q]; exact e2, r.mono l fun _ _ e _ _ => e⟩
  · rcases get_set h1 with ⟨q, e1⟩ | ⟨q, e1⟩
    · cases e1
    · rcases get_set h2 with ⟨q2, e2⟩ | ⟨q2, e2⟩
      · cases e2
      · rw [List.getElem?_set_ne q] at h3
        rw [List.getElem?_set_ne q2] at h4
        exact S.sep j k _ _ b e1 e2 h3 h4
theorem SR.wipe (S : SR Γ g σ H env cv) : ∀ vs : List Nat, SR Γ g (wipe σ vs) H (wipeE env vs) cv
  | [] => S
  | v :: vs => (SR.wipe S vs).unset v
theorem wipeE_out {env : Ev} {i : Nat} : ∀ {vs : List Nat}, i ∉ vs → (wipeE env vs)[i]? = env[i]?
  | [], _ => rfl
  | v :: vs, h => by
    rw [List.mem_cons, not_or] at h
    unfold wipeE
    rw [List.getElem?_set_ne (fun e => h.1 e.symm)]
    exact wipeE_out h.2
theorem setS_out {i : Nat} : ∀ {is : List Nat} {xs : List V} {σ : St}, i ∉ is → (setS σ is xs)[i]? = σ[i]?
  | [], _, _, _ => by unfold setS; rfl
  | _ :: _, [], _, _ => by unfold setS; rfl
  | j :: is, x :: xs, σ, h => by
    rw [List.mem_cons, not_or] at h
    show (setS (σ.set j (some x)) is xs)[i]? = _
    rw [setS_out h.2, List.getElem?_set_ne (fun e => h.1 e.symm)]
theorem setE_out {i : Nat} : ∀ {is : List Nat} {xs : List Sl} {σ : Ev}, i ∉ is → (setE σ is xs)[i]? = σ[i]?
  | [], _, _, _ => by unfold setE; rfl
  | _ :: _, [], _, _ => by unfold setE; rfl
  | j :: is, x :: xs, σ, h => by
    rw [List.mem_cons, not_or] at h
    show (setE (σ.set j x) is xs)[i]? = _
    rw [setE_out h.2, List.getElem?_set_ne (fun e => h.1 e.symm)]
theorem setS_len : ∀ {is : List Nat} {xs : List V} {σ : St}, (setS σ is xs).length = σ.length
  | [], _, _ => by unfold setS; rfl
  | _ :: _, [], _ => by unfold setS; rfl
  | j :: is, x :: xs, σ => by
    show (setS (σ.set j (some x)) is xs).length = _
    rw [setS_len, List.length_set]
theorem wipe_in {σ : St} {i : Nat} : ∀ {vs : List Nat}, i ∈ vs → i < σ.length → (L2.wipe σ vs)[i]? = some none
  | v :: vs, h, hl => by
    unfold L2.wipe
    by_cases e : v = i
    · subst e
      rw [List.getElem?_set_self (by rw [wipe_length]; exact hl)]
    · rw [List.getElem?_set_ne e]
      exact wipe_in ((List.mem_cons.mp h).resolve_left fun z => e z.symm) hl
theorem wipe_set {σ : St} {vs is : List Nat} {xs : List V} (h : ∀ i ∈ is, i ∈ vs) : L2.wipe (setS (L2.wipe σ vs) is xs) vs = L2.wipe σ vs := by
  apply List.ext_getElem?
  intro i
  by_cases hv : i ∈ vs
  · by_cases hl : i < σ.length
    · rw [wipe_in hv hl, wipe_in hv (by rw [setS_len, wipe_length]; exact hl)]
    · rw [List.getElem?_eq_none (by rw [wipe_length, setS_len, wipe_length]; omega), List.getElem?_eq_none (by rw [wipe_length]; omega)]
  · rw [wipe_out hv, setS_out (fun z => hv (h i z))]
end

theorem ow_wipe {σ : St} {env : Ev} {b : Addr} : ∀ {vs : List Nat}, Ow (L2.wipe σ vs) (wipeE env vs) b → Ow σ env b
  | [], h => h
  | v :: vs, h => by
    rcases ow_set (σ := L2.wipe σ vs) (env := wipeE env vs) h with ⟨_, z, _⟩ | h
    · cases z
    · exact ow_wipe h
theorem tabs_mut {T : List (Addr × Str)} {H : Hp} {a : Addr} {o o' : HO} (h : LamX.Tabs T H) (e : H a = some o) (di : isD o) : LamX.Tabs T (upd H a o') := fun p hp => by
  obtain ⟨ps, h1, h2, h3⟩ := h p hp
  refine ⟨ps, by rw [upd_ne (fun z => by rw [z, e] at h1; cases h1; exact di)]; exact h1, h2, fun pos v hc => ?_⟩
  obtain ⟨c, e1, e2⟩ := h3 pos v hc
  exact ⟨c, e1, by rw [upd_ne (fun z => by rw [z, e] at e2; have e3 := Option.some.inj e2; rw [e3] at di; exact di)]; exact e2⟩
theorem cup_mut {c : Option Addr} {H : Hp} {cv : Cv} {a : Addr} {o : HO} (h : CupAt c H cv) (n : c ≠ some a) : CupAt c (upd H a o) cv := by
  cases c with
  | none => cases cv <;> exact h
  | some b =>
    cases cv with
    | none => exact h
    | some xy =>
      have h : H b = some (.lst [.int xy.1, .int xy.2]) := h
      show upd H a o b = _
      rw [upd_ne (fun z => n (by rw [z]))]; exact h
theorem po_mutNew {Γ : Gx} {g : Gh} {H H1 : Hp} {cv : Cv} {a : Addr} {o o' : HO} (p : Po Γ g H H1 cv) (n : H a = Option.none) (e : H1 a = Option.some o) (di : isD o) (nc : g.c ≠ some a) : Po Γ g H (upd H1 a o') cv where
  keep := fun b u eb t m => by rw [upd_ne (ne_of_none eb n)]; exact p.keep b u eb t m
  there := fun b u eb => by
    obtain ⟨u', e'⟩ := p.there b u eb
    exact ⟨u', by rw [upd_ne (ne_of_none eb n)]; exact e'⟩
  cst := cup_mut p.cst nc
  tabs := tabs_mut p.tabs e di

/-! ### list comprehensions -/
def lcL (t : Va → Option (List Va)) (is : List Nat) (tt : ST) (f : SE) : List Va → Ev → Cv → Re (List Va)
  | [], _, c => .ok [] c
  | d :: ds, env, c => match t d with
    | none => .stk
    | some es => match tt (setE env is (es.map .val)) c with
      | .ok true c1 => match f (setE env is (es.map .val)) c1 with
        | .ok v c2 => (lcL t is tt f ds env c2).bind fun vs c3 => .ok (v :: vs) c3
        | _ => .stk
      | .ok false c1 => lcL t is tt f ds env c1
      | _ => .stk
def ownFree (env : Ev) (vs : List Nat) : Bool := vs.all fun i => match env[i]? with
  | some (.own _) => false
  | _ => true
def eLc (fi : SI) (t : Va → Option (List Va)) (is vs : List Nat) (tt : ST) (f : SE) : SE := fun env c => (fi env c).bind fun ds c1 =>
  if ds.length ≤ L24 ∧ ownFree env vs = true then (lcL t is tt f ds (wipeE env vs) c1).bind fun xs c2 => .ok (.lst xs) c2 else .stk
def tYesS : ST := fun _ c => .ok true c
def WF : WX := fun _ _ _ _ => False
section
variable {Γ : Gx} {W : WX} {g : Gh} {σ σ' : St} {H H' H1 : Hp} {env env' : Ev} {cv c1 c' : Cv}
theorem Re.bind_bind {α β γ : Type} (r : Re α) (k : α → Cv → Re β) (l : β → Cv → Re γ) : (r.bind k).bind l = r.bind fun a c => (k a c).bind l := by cases r <;> rfl
theorem lc_in {fi : SI} {t : Va → Option (List Va)} {is vs : List Nat} {tt : ST} {f : SE} {Q : VK} (hlen : ∀ d ds, t d = some ds → ds.length = is.length) (hsub : ∀ i ∈ is, i ∈ vs) (q : TF Γ W (eLc fi t is vs tt f) σ H Q) :
    tLc (TIt Γ W fi) (fun v σ H Q => ∃ mg c Hh d ds, Rep Γ.K mg c Hh v d ∧ Le Hh H ∧ t d = some ds ∧ ∀ xs, RepL Γ.K mg c Hh xs ds → Q (setS σ is xs) H) (TB Γ WF tt) (TD Γ WF f) vs σ H Q := by
  obtain ⟨g, env, cv, S0, r⟩ := q
  refine ⟨g, env, cv, S0, r.bnd.mono fun ds c1 H1 p q J it D nD => ?_⟩
  have S := S0.after p
  have r := q.2
  by_cases hlf : ds.length ≤ L24 ∧ ownFree env vs = true
  case neg => rw [if_neg hlf] at r; exact r.elim
  rw [if_pos hlf] at r
  obtain ⟨hln, hof⟩ := hlf
  have noOwn : ∀ i d, env[i]? = some (.own d) → i ∉ vs := fun i d e hi => by
    have := List.all_eq_true.mp hof i hi
    rw [e] at this
    cases this
  obtain ⟨G, Y, w, hG, hY⟩ := it.ex
  have lenL : (ds.length : Nat) ≤ sizeLine := by rw [← l24]; exact hln
  refine lc_it (g := fun v σ H Q => ∃ mg c Hh d ds, Rep Γ.K mg c Hh v d ∧ Le Hh H ∧ t d = some ds ∧ ∀ xs, RepL Γ.K mg c Hh xs ds → Q (setS σ is xs) H) (tt := TB Γ WF tt) (te := TD Γ WF f) (Qd := fun H => Q (.ref D) H) w
    (fun i H' => ∃ c' dn acc, H' D = some (.lst acc) ∧ acc.length ≤ i ∧ RepLA Γ g (hid H' (Mp g σ env D)) acc dn ∧ Po Γ g H1 H' c' ∧ ROut Γ W g σ H1 (PF Γ g σ env H Q) ((lcL t is tt f (ds.drop i) (wipeE env vs) c').bind fun xs c2 => .ok (.lst (dn ++ xs)) c2))
    ⟨c1, [], [], upd_same, Nat.le_refl _, .nil, Po.new S nD (fun ps z => by cases z), by simpa using r⟩ (fun i H' _ ⟨c', dn, acc, _, _, _, p', _⟩ => hG H' ((p'.le S).trans le_hid_of)) (fun i x H' H2 hi ⟨c', dn, acc, hD, hla, racc, p', r'⟩ y => ?_) (fun H' ⟨c', dn, acc, hD, hla, racc, p', r'⟩ => ?_)
  · have nc : g.c ≠ some D := fun z => S.newM nD (.inl (S.cM D z))
    obtain ⟨k2, d, ed, hr⟩ := hY i H' x H2 hi ((p'.le S).trans le_hid_of) y
    have S' := S.after p'
    have p2 : Po Γ g H' H2 c' := Po.ext S' k2
    have P2 : Po Γ g H1 H2 c' := p'.trans p2
    have hD2 : H2 D = some (.lst acc) := k2 _ _ hD
    have SD : SR Γ (g.add fun b => b = D) σ H2 env c' := S.afterM P2 (fun b z => by rw [z]; exact nD) fun b z => ⟨.lst acc, by rw [z]; exact hD2⟩
    have SW := SD.wipe vs
    have sub : ∀ b, Mt (g.add fun b => b = D) (L2.wipe σ vs) (wipeE env vs) b → Mt g σ env b ∨ b = D := fun b z => by
      rcases z with (z | z) | z
      · exact .inl (.inl z)
      · exact .inr z
      · exact .inl (.inr (ow_wipe z))
    have lD : Le (hid H1 (Mt g σ env)) (hid H2 (Mt (g.add fun b => b = D) (L2.wipe σ vs) (wipeE env vs))) := le_hid (fun b o nb e t => P2.keep b o e t fun z => nb (.inl (S.cM b z))) fun b z => (sub b z).imp id fun z => by rw [z]; exact nD
    have e : ds.drop i = d :: ds.drop (i + 1) := by
      have hlt : i < ds.length := hi
      rw [List.drop_eq_getElem_cons hlt]
      congr 1
      rw [List.getElem?_eq_getElem hlt] at ed
      exact Option.some.inj ed
    rw [e] at r'
    unfold lcL at r'
    cases et : t d with
    | none => rw [et] at r'; exact r'.elim
    | some es =>
      rw [et] at r'
      refine ⟨Γ.mg, g.c, hid H2 (Mt (g.add fun b => b = D) (L2.wipe σ vs) (wipeE env vs)), d, es, hr _ lD fun b o e1 e2 => hid_of (fun z => ?_) e2, le_hid_of, et, fun xs rx => ⟨wipe_set hsub, ?_⟩⟩
      · rcases sub b z with z | z
        · obtain ⟨o', e'⟩ := S'.mtH b z
          rw [e1] at e'; cases e'
        · rw [z, hD] at e1; cases e1
      · have q2 := SPo.vals SW (is := is) (hlen _ _ et) rx
        have S2 := q2.sr
        have sup : ∀ b, Mp g σ env D b → Mt (g.add fun b => b = D) (setS (L2.wipe σ vs) is xs) (setE (wipeE env vs) is (es.map .val)) b := fun b z => by
          rcases z with (z | ⟨j, d', z1, z2⟩) | z
          · exact .inl (.inl z)
          · have jv := noOwn j d' z1
            have js : j ∉ is := fun z => jv (hsub j z)
            exact .inr ⟨j, d', by rw [setE_out js, wipeE_out jv]; exact z1, by rw [setS_out js, wipe_out jv]; exact z2⟩
          · exact .inl (.inr z)
        have lk : ∀ {H3 : Hp} {c3 : Cv}, Po Γ g H2 H3 c3 → Le (hid H2 (Mp g σ env D)) (hid H3 (Mp g σ env D)) := fun p3 => le_hid (fun b o nb e t => p3.keep b o e t fun z => nb (.inl (.inl (S.cM b z)))) fun b z => .inl z
        have r0 : RepLA Γ g (hid H2 (Mp g σ env D)) acc dn := racc.mono (le_hid (fun b o nb e t => p2.keep b o e t fun z => nb (.inl (.inl (S.cM b z)))) fun b z => .inl z)
        refine ⟨g.add fun b => b = D, setE (wipeE env vs) is (es.map .val), c', S2, ?_⟩
        cases et2 : tt (setE (wipeE env vs) is (es.map .val)) c' with
        | stk => simp only [et2] at r'; exact r'.elim
        | exn x c => simp only [et2] at r'; exact r'.elim
        | ok b c3 =>
          intro H3 p3
          have p3' : Po Γ g H2 H3 c3 := p3.sub
          have hD3 : H3 D = some (.lst acc) := p3'.keep D _ hD2 (fun ps z => by cases z) nc
          have r3 : RepLA Γ g (hid H3 (Mp g σ env D)) acc dn := r0.mono (lk p3')
          cases b with
          | false =>
            simp only [et2] at r'
            exact ⟨c3, dn, acc, hD3, Nat.le_succ_of_le hla, r3, P2.trans p3', r'⟩
          | true =>
            simp only [et2] at r'
            refine ⟨g.add fun b => b = D, setE (wipeE env vs) is (es.map .val), c3, S2.after p3, ?_⟩
            cases ef : f (setE (wipeE env vs) is (es.map .val)) c3 with
            | stk => simp only [ef] at r'; exact r'.elim
            | exn x c => simp only [ef] at r'; exact r'.elim
            | ok v c4 =>
              simp only [ef] at r'
              intro H4 p4 y ry
              have p4' : Po Γ g H3 H4 c4 := p4.sub
              have hD4 : H4 D = some (.lst acc) := p4'.keep D _ hD3 (fun ps z => by cases z) nc
              have r4 : RepLA Γ g (hid H4 (Mp g σ env D)) acc dn := r3.mono (le_hid (fun b o nb e t => p4'.keep b o e t fun z => nb (.inl (.inl (S.cM b z)))) fun b z => .inl z)
              have lu : Le (hid H4 (Mp g σ env D)) (hid (upd H4 D (.lst (acc ++ [y]))) (Mp g σ env D)) := le_hid (fun b o nb e t => by rw [upd_ne (fun z => nb (.inr z))]; exact e) fun b z => .inl z
              have lv : Le (hid H4 (Mt (g.add fun b => b = D) (setS (L2.wipe σ vs) is xs) (setE (wipeE env vs) is (es.map .val)))) (hid H4 (Mp g σ env D)) := le_hid (fun b o nb e t => e) fun b z => .inl (sup b z)
              have hla' : acc.length < sizeLine := Nat.lt_of_lt_of_le (Nat.lt_of_le_of_lt hla hi) lenL
              refine ⟨acc, hD4, hla', c4, dn ++ [v], acc ++ [y], upd_same, ?_, (r4.mono lu).append (.cons ((Rep.mono lv ry).mono lu) .nil), po_mutNew ((P2.trans p3').trans p4') nD hD4 trivial nc, ?_⟩
              · rw [List.length_append]; exact Nat.succ_le_succ hla
              · rw [Re.bind_bind] at r'
                have e2 : ((lcL t is tt f (ds.drop (i + 1)) (wipeE env vs) c4).bind fun xs c2 => Re.ok (Va.lst (dn ++ [v] ++ xs)) c2) = (lcL t is tt f (ds.drop (i + 1)) (wipeE env vs) c4).bind fun a c => (Re.ok (v :: a) c).bind fun xs c2 => Re.ok (Va.lst (dn ++ xs)) c2 := by
                  congr 1
                  funext a c
                  show Re.ok (Va.lst (dn ++ [v] ++ a)) c = Re.ok (Va.lst (dn ++ (v :: a))) c
                  rw [List.append_assoc]; rfl
                rw [e2]
                exact r'
  · rw [List.drop_eq_nil_of_le (Nat.le_refl _)] at r'
    refine r' H' p' D (p.none D nD) ⟨acc, hD, ?_⟩
    rw [List.append_nil]
    exact racc
end
end G

set_option Elab.async false
set_option linter.all false
set_option maxRecDepth 100000
set_option maxHeartbeats 2000000
namespace G
set_option autoImplicit false
open PySem PySem.Spec PyProof.Rows L2

theorem takesF {X : Cx} : L2N.Takes X WF := fun _ _ x => by
  obtain ⟨_, _, _, _, _, _, _, _, _, _, _, _, _, _, _, _, z⟩ := x
  exact z.elim
theorem JX.blk {X : Cx} {W : WX} (j : JX X W) (s : Shared) (H : Hp) (scope : Scope) (cenv : Env) (fp : List Addr) : JX (X.blk s H scope cenv fp) WF := ⟨takesF, j.nd, j.hu, PassesOwn.never⟩
section
variable {X : Cx} {T : Gt} {W : WX} {fr : Bool} {tg iter elt : Expr} {ifs : List Expr} {scope : Scope} {own : List (Str × Nat)} {fi : SI} {f : SE} {tt : ST} {t : Va → Option (List Va)} {is : List Nat} {pos spos py : Pos}
/-- a comprehension's tests -/
def RTs (X : Cx) (T : Gt) (W : WX) (ifs : List Expr) (tt : ST) : Prop := PTs X ifs (TB (gx X T) W tt)
theorem pts_imp {ifs : List Expr} {t t' : TT} (h : PTs X ifs t) (i : ∀ σ H Q, t' σ H Q → t σ H Q) : PTs X ifs t' := ⟨fun pins s σ H Q I q => h.run pins s σ H Q I (i σ H Q q)⟩
theorem rts_nil : RTs X T W [] tYesS := pts_imp pts_nil fun σ H Q ⟨g, env, cv, S, r⟩ => r H (Po.refl S)
theorem rts_one {c : Expr} (h : RT X T W c tt) : RTs X T W [c] tt := pts_one h
theorem lc_tf (own : List (Str × Nat)) (hlen : ∀ d ds, t d = some ds → ds.length = is.length) (hsub : ∀ i ∈ is, i ∈ own.map (·.2)) {σ : St} {H : Hp} {Q : VK} (q : TF (gx X T) W (eLc fi t is (own.map (·.2)) tt f) σ H Q) :
    tLc (TIt (gx X T) W fi) (fun v σ H Q => ∃ mg c Hh d ds, Rep X.K mg c Hh v d ∧ Le Hh H ∧ t d = some ds ∧ ∀ xs, RepL X.K mg c Hh xs ds → Q (setS σ is xs) H) (TB (gx X T) WF tt) (TD (gx X T) WF f) (own.map (·.2)) σ H Q := lc_in hlen hsub q
theorem rf_lc (own : List (Str × Nat)) (j : JX X W) (hi : RI X T W tg iter fi) (ok : blkC X.N X.env.scope scope own = true)
    (hg : ∀ (s : Shared) (H : Hp) (C : Addr) (cl : List (Str × Addr)) (fp : List Addr), JX (X.blk s H scope (compEnvC scope cl C X.env) fp) WF → RG (X.blk s H scope (compEnvC scope cl C X.env) fp) tg is t)
    (ht : ∀ (s : Shared) (H : Hp) (C : Addr) (cl : List (Str × Addr)) (fp : List Addr), JX (X.blk s H scope (compEnvC scope cl C X.env) fp) WF → RTs (X.blk s H scope (compEnvC scope cl C X.env) fp) T WF ifs tt)
    (he : ∀ (s : Shared) (H : Hp) (C : Addr) (cl : List (Str × Addr)) (fp : List Addr), JX (X.blk s H scope (compEnvC scope cl C X.env) fp) WF → RE (X.blk s H scope (compEnvC scope cl C X.env) fp) T WF elt f) (hsub : ∀ i ∈ is, i ∈ own.map (·.2) := by decide) (hc : X.calm = true := by rfl)
    (hs : ∀ x, foldedSetIterable iter X.env x = pure x := by intro _; rfl) : RF X T W (.ListComp elt [⟨tg, iter, ifs, 0⟩] scope pos) (eLc fi t is (own.map (·.2)) tt f) :=
  pe_imp (pe_lc (tt := TB (gx X T) WF tt) (te := TD (gx X T) WF f) hc j.nd hi (blkOk_by ok) (fun s H C cl fp => (hg s H C cl fp (j.blk ..)).run) (fun s H C cl fp => ht s H C cl fp (j.blk ..)) (fun s H C cl fp => he s H C cl fp (j.blk ..)) hs) fun σ H Q q => lc_tf own (hg X.s_0 H 0 [] [] (j.blk ..)).len hsub q
theorem rs_lc (own : List (Str × Nat)) (j : JX X W) (i : Nat) {y : Str} (hi : RI X T W tg iter fi) (ok : blkC X.N X.env.scope scope own = true)
    (hg : ∀ (s : Shared) (H : Hp) (C : Addr) (cl : List (Str × Addr)) (fp : List Addr), JX (X.blk s H scope (compEnvC scope cl C X.env) fp) WF → RG (X.blk s H scope (compEnvC scope cl C X.env) fp) tg is t)
    (ht : ∀ (s : Shared) (H : Hp) (C : Addr) (cl : List (Str × Addr)) (fp : List Addr), JX (X.blk s H scope (compEnvC scope cl C X.env) fp) WF → RTs (X.blk s H scope (compEnvC scope cl C X.env) fp) T WF ifs tt)
    (he : ∀ (s : Shared) (H : Hp) (C : Addr) (cl : List (Str × Addr)) (fp : List Addr), JX (X.blk s H scope (compEnvC scope cl C X.env) fp) WF → RE (X.blk s H scope (compEnvC scope cl C X.env) fp) T WF elt f) (hsub : ∀ i ∈ is, i ∈ own.map (·.2) := by decide) (hc : X.calm = true := by rfl)
    (hy : X.N[i]? = some y := by rfl) (hyl : X.env.scope.names.lookup y = some .local := by rfl) (hk : X.env.scope.kind = .function := by rfl) (hln : (py.line == pos.line) = true := by rfl) (ha : (scope.names.any fun (n, k) => n == y && (k == .local || k == .cell)) = false := by rfl)
    (hs : ∀ x, foldedSetIterable iter X.env x = pure x := by intro _; rfl) : RS X T W fr (.Assign [.Name y py] (.ListComp elt [⟨tg, iter, ifs, 0⟩] scope pos) spos) (sOwn i (eLc fi t is (own.map (·.2)) tt f)) :=
  ps_imp (ps_setLc (tt := TB (gx X T) WF tt) (te := TD (gx X T) WF f) hc j.nd hy hyl (sw_true hk hyl hln ha) hi (blkOk_by ok) (fun s H C cl fp => (hg s H C cl fp (j.blk ..)).run) (fun s H C cl fp => ht s H C cl fp (j.blk ..)) (fun s H C cl fp => he s H C cl fp (j.blk ..)) hs) fun D σ H ⟨g, env, cv, S, r⟩ =>
    lc_tf own (hg X.s_0 H 0 [] [] (j.blk ..)).len hsub (own_imp S r)
end

/-! ### calls -/
/-- what a def promises: F tells what it gives of values -/
def spG (Γ : Gx) (n : Nat) (fr : Bool) (F : List Va → Cv → Re Va) : Sp := fun vs H Q E => vs.length = n ∧ ∃ g cv ds, SR Γ g [] H [] cv ∧ g.H0 = H ∧ RepLA Γ g (hid H g.M) vs ds ∧
  ROut Γ (fun cls d _ H => E cls d H) g [] H (fun d c H' => if fr then ∀ a, H a = none → Top Γ g (hid H' fun b => g.M b ∨ b = a) H' a d → Q (.ref a) H' else ∀ x, RepA Γ g (hid H' g.M) x d → Q x H') (F ds cv)
/-- a def under its name -/
structure FnA (P : Program) (w : World) (K : PySem.W.Frag) (mg : Str → Option Value) (base : Heap) (CX : CXT) (k : Nat) (x : Str) (f : Addr) (fd : FuncData) (ps : List Str) (sp : Sp) : Prop where
  ok : FnOk P w K mg base CX k f fd ps sp
  mgf : mg x = some (.ref f)
  kp : PySem.W.keepIn K (.ref f) = true
  bi : Binds K fd ps []
section
variable {Γ : Gx} {W : WX} {g : Gh} {σ : St} {H H1 : Hp} {env : Ev} {cv c1 : Cv} {Q : VK}
/-- the callee's ghost -/
def Gh.call (g : Gh) (σ : St) (env : Ev) (H : Hp) : Gh := ⟨g.c, Mt g σ env, H⟩
def Gx.bare (Γ : Gx) : Gx := ⟨Γ.K, Γ.mg, Γ.T, none, none, none⟩
abbrev gb (X : Cx) (T : Gt) : Gx := ⟨X.K, X.mg, T.tb, none, none, none⟩
theorem SR.call (S : SR Γ g σ H env cv) : SR Γ.bare (g.call σ env H) [] H [] cv where
  len := rfl
  val := fun i d h => by simp at h
  own := fun i d h => by simp at h
  bor := fun i d h => by simp at h
  raw := fun i d h => by simp at h
  sep := fun i j d e a h => by simp at h
  cst := S.cst
  cM := fun a h => .inl (S.cM a h)
  mt := S.mtH
  ent := fun b o e _ _ => e
  there := fun b o e => ⟨o, e⟩
  tabs := S.tabs
  lb := fun _ e => nomatch e
theorem Po.uncall {H2 : Hp} (p : Po Γ.bare (g.call σ env H) H1 H2 c1) : Po Γ g H1 H2 c1 := ⟨p.keep, p.there, p.cst, p.tabs⟩
end
def callS (F : List Va → Cv → Re Va) (fa : SA) : SE := fun env c => (fa env c).bind fun ds c1 => F ds c1
section
variable {X : Cx} {T : Gt} {W : WX} {e : Expr} {es : List Expr} {fa : SA} {F : List Va → Cv → Re Va} {k n : Nat} {x : Str} {f : Addr} {fd : FuncData} {ps : List Str} {p pos : Pos}
theorem call_sp {fr : Bool} {g : Gh} {σ : St} {H H1 : Hp} {env : Ev} {cv c1 : Cv} {Q : VK} {ds : List Va} {vs : List V} (S0 : SR (gx X T) g σ H env cv) (p : Po (gx X T) g H H1 c1) (rx : RepLA (gx X T) g (hid H1 (Mt g σ env)) vs ds) (hn : vs.length = n)
    (r : ROut (gx X T) W g σ H1 (fun d c H' => if fr then PF (gx X T) g σ env H Q d c H' else PV (gx X T) g σ env Q d c H') (F ds c1)) : spG (gb X T) n fr F vs H1 Q (WE W σ) := by
  have S := S0.after p
  refine ⟨hn, g.call σ env H1, c1, ds, S.call, rfl, rx, ?_⟩
  cases q : F ds c1 with
  | stk => rw [q] at r; exact r.elim
  | exn x c => rw [q] at r; exact fun cls dd H' p' => r cls dd H' (Po.uncall (Γ := gx X T) p')
  | ok d c =>
    rw [q] at r
    intro H' p'
    have h := r H' (Po.uncall (Γ := gx X T) p')
    cases fr with
    | true => exact fun a na t => h a (p.none a na) t
    | false => exact fun x rx => h x rx
theorem re_call (j : JX X W) (C : FnA X.prog X.w X.K X.mg X.base (L2N.CX X.prog X.w) k x f fd ps (spG (gb X T) n false F)) (hr : Room k X.A) (hg : Gl X x := by rfl) (ha : RA X T W (e :: es) fa) (hn : (e :: es).length = n := by rfl) (hl : ∀ env c ds c', fa env c = .ok ds c' → ds.length = n)
    (hdb : (x == ("__debug__" : Str)) = false := by decide) (he : starEach (e :: es) X.env = (false, eval e X.env) :: starEach es X.env := by rfl) (hpl : (backTo pos (starEach es X.env)).any (·.1) = false := by rfl) :
    RE X T W (.Call (.Name x p) (e :: es) [] pos) (callS F fa) :=
  pe_imp (pe_callSD (dvs := []) (ds := []) (E := WE W) C.ok hr hg C.mgf C.kp C.bi .nil (fun σ => L2N.passAt j.tk σ) ha hdb he hpl) fun σ H Q ⟨g, env, cv, S, r⟩ => by
    refine ⟨g, env, cv, S, ?_⟩
    unfold callS at r
    cases q : fa env cv with
    | stk => rw [q] at r; exact r.elim
    | exn x c => rw [q] at r; exact r
    | ok ds c1 =>
      rw [q] at r
      intro H1 p vs rx
      rw [List.append_nil]
      exact call_sp (fr := false) S p rx (by rw [rx.length]; exact hl _ _ _ _ q) ((ROut.shift p r).mono fun d c H' p' h => h)
theorem rf_call (j : JX X W) (C : FnA X.prog X.w X.K X.mg X.base (L2N.CX X.prog X.w) k x f fd ps (spG (gb X T) n true F)) (hr : Room k X.A) (hg : Gl X x := by rfl) (ha : RA X T W (e :: es) fa) (hl : ∀ env c ds c', fa env c = .ok ds c' → ds.length = n)
    (hdb : (x == ("__debug__" : Str)) = false := by decide) (he : starEach (e :: es) X.env = (false, eval e X.env) :: starEach es X.env := by rfl) (hpl : (backTo pos (starEach es X.env)).any (·.1) = false := by rfl) :
    RF X T W (.Call (.Name x p) (e :: es) [] pos) (callS F fa) :=
  pe_imp (pe_callSD (dvs := []) (ds := []) (E := WE W) C.ok hr hg C.mgf C.kp C.bi .nil (fun σ => L2N.passAt j.tk σ) ha hdb he hpl) fun σ H Q ⟨g, env, cv, S, r⟩ => by
    refine ⟨g, env, cv, S, ?_⟩
    unfold callS at r
    cases q : fa env cv with
    | stk => rw [q] at r; exact r.elim
    | exn x c => rw [q] at r; exact r
    | ok ds c1 =>
      rw [q] at r
      intro H1 p vs rx
      rw [List.append_nil]
      exact call_sp (fr := true) S p rx (by rw [rx.length]; exact hl _ _ _ _ q) ((ROut.shift p r).mono fun d c H' p' h => h)
end
end G

set_option Elab.async false
set_option linter.all false
set_option maxRecDepth 100000
set_option maxHeartbeats 2000000
namespace G
set_option autoImplicit false
open PySem PySem.Spec PyProof.Rows L2

/-! ### a def -/
def env0 (n : Nat) (ds : List Va) : Ev := ds.map .val ++ List.replicate (n - ds.length) .un
def runF (n : Nat) (fr : Bool) (body : SS) (ds : List Va) (c : Cv) : Re Va := match body (env0 n ds) c with
  | .nx _ c => if fr then .stk else .ok .non c
  | .rt d c => .ok d c
  | .exn e _ c => .exn e c
  | _ => .stk
theorem jx_of {P : Program} {w : World} {K : PySem.W.Frag} {mg : Str → Option Value} {base : Heap} {N ps : List Str} {qual : Str} {scope : Scope} {f : Addr} {cd : Value} {A : Around} {outer : List Env} {s : Shared} {H : Hp} {E : XK} {k : Nat} (S : FnScope N ps scope)
    (hr : Room k (A.deeper (envOfC qual scope s.heap.objs.size f cd))) : JX (cxOf (L2N.CX P w) P w K mg base N qual scope f cd A outer s H E) (fun cls d _ H => E cls d H) where
  tk := L2N.takes_of rfl rfl rfl rfl
  nd := S.nd
  hu := by have := hr.un; show (A.deeper (envOfC qual scope s.heap.objs.size f cd)).units + 66 < cLine; omega
  po := by
    show PassesOwn (model P w) (A.deeper (envOfC qual scope s.heap.objs.size f cd)) (envOfC qual scope s.heap.objs.size f cd) _
    passes_own
section
variable {P : Program} {w : World} {K : PySem.W.Frag} {mg : Str → Option Value} {base : Heap} {T : List (Addr × Str)}
theorem fn_G {x qual : Str} {st : Stmt} {f : Addr} {fd : FuncData} {N ps : List Str} {k : Nat} {fr : Bool} {fb : SS} (F : Fun K x qual st f fd) (S : FnScope N ps (defScope st)) (hN : ps.length ≤ N.length)
    (hbody : ∀ (cdv : Value) (A : Around) (outer : List Env) (s : Shared) (H : Hp) (E : XK), Room k (A.deeper (envOfC qual (defScope st) s.heap.objs.size f cdv)) →
      JX (cxOf (L2N.CX P w) P w K mg base N qual (defScope st) f cdv A outer s H E) (fun cls d _ H => E cls d H) → RSs (cxOf (L2N.CX P w) P w K mg base N qual (defScope st) f cdv A outer s H E) ⟨T, none, none, none⟩ (fun cls d _ H => E cls d H) fr (defBody st) fb) :
    FnOk P w K mg base (L2N.CX P w) (k + 1) f fd ps (spG ⟨K, mg, T, none, none, none⟩ ps.length fr (runF N.length fr fb)) := by
  obtain ⟨oc, od, kV, doc, pm, an, cdv, ct, osl, rfl, lk, hcd⟩ := F.ex
  refine fn_of lk hcd S (fun vs H Q E h => h.1) fun A outer s H vs Q E hr hsp => ⟨_, hbody cdv A outer s H E hr (jx_of S hr), ?_⟩
  obtain ⟨hn, g, cv, ds, S0, hH0, rx, r⟩ := hsp
  have hl : vs.length = ds.length := rx.length
  have noOw : ∀ b, ¬ Ow (start N vs) (env0 N.length ds) b := fun b ⟨i, d, h1, _⟩ => by
    unfold env0 at h1
    by_cases hi : i < ds.length
    · rw [List.getElem?_append_left (by simpa using hi)] at h1
      simp at h1
    · rw [List.getElem?_append_right (by simpa using hi)] at h1
      have := List.mem_of_getElem? h1
      rw [List.mem_replicate] at this
      cases this.2
  have l : Le (hid H g.M) (hid H (Mt g (start N vs) (env0 N.length ds))) := le_hid (fun b o _ e _ => e) fun b z => .inl (z.resolve_right (noOw b))
  have SR1 : SR ⟨K, mg, T, none, none, none⟩ g (start N vs) H (env0 N.length ds) cv := by
    refine ⟨?_, fun i d h => ?_, fun i d h => ?_, fun i d h => ?_, fun i d h => ?_, fun i j d e a h => ?_, S0.cst, S0.cM, S0.mt, S0.ent, S0.there, S0.tabs, S0.lb⟩
    · unfold L2.start env0
      simp [hl]
    · unfold env0 at h
      by_cases hi : i < ds.length
      · rw [List.getElem?_append_left (by simpa using hi)] at h
        rw [List.getElem?_map] at h
        cases q : ds[i]? with
        | none => rw [q] at h; cases h
        | some d' =>
          rw [q] at h
          cases h
          obtain ⟨x, e, r⟩ := rx.get' q
          refine ⟨x, ?_, r.mono l⟩
          unfold L2.start
          rw [List.getElem?_append_left (by rw [List.length_map, hl]; exact hi), List.getElem?_map, e]; rfl
      · rw [List.getElem?_append_right (by simpa using hi)] at h
        have := List.mem_of_getElem? h
        rw [List.mem_replicate] at this
        cases this.2
    · have h1 : (env0 N.length ds)[i]? = some (.own d) := h
      unfold env0 at h1
      by_cases hi : i < ds.length
      · rw [List.getElem?_append_left (by simpa using hi)] at h1
        simp at h1
      · rw [List.getElem?_append_right (by simpa using hi)] at h1
        have := List.mem_of_getElem? h1
        rw [List.mem_replicate] at this
        cases this.2
    · have h1 : (env0 N.length ds)[i]? = some (.bor d) := h
      unfold env0 at h1
      by_cases hi : i < ds.length
      · rw [List.getElem?_append_left (by simpa using hi)] at h1
        simp at h1
      · rw [List.getElem?_append_right (by simpa using hi)] at h1
        have := List.mem_of_getElem? h1
        rw [List.mem_replicate] at this
        cases this.2
    · have h1 : (env0 N.length ds)[i]? = some (.raw d) := h
      unfold env0 at h1
      by_cases hi : i < ds.length
      · rw [List.getElem?_append_left (by simpa using hi)] at h1
        simp at h1
      · rw [List.getElem?_append_right (by simpa using hi)] at h1
        have := List.mem_of_getElem? h1
        rw [List.mem_replicate] at this
        cases this.2
    · have h1 : (env0 N.length ds)[i]? = some (.own d) := h
      unfold env0 at h1
      by_cases hi : i < ds.length
      · rw [List.getElem?_append_left (by simpa using hi)] at h1
        simp at h1
      · rw [List.getElem?_append_right (by simpa using hi)] at h1
        have := List.mem_of_getElem? h1
        rw [List.mem_replicate] at this
        cases this.2
  refine ⟨g, env0 N.length ds, cv, SR1, ?_⟩
  unfold runF at r
  cases q : fb (env0 N.length ds) cv with
  | nx e c =>
    simp only [q] at r
    intro σ' H' p
    have po : Po ⟨K, mg, T, none, none, none⟩ g H H' c := ⟨fun b o e1 e2 e3 => p.keep b o e1 e2 e3 (noOw b), p.there, p.sr.cst, p.sr.tabs⟩
    cases fr with
    | true => exact r.elim
    | false => exact r H' po _ .non
  | rt d c =>
    simp only [q] at r
    intro x H' p
    have po : Po ⟨K, mg, T, none, none, none⟩ g H H' c := ⟨fun b o e1 e2 e3 => p.keep b o e1 e2 e3 (noOw b), p.there, p.cst, p.tabs⟩
    have res := p.res
    have h := r H' po
    cases fr with
    | true =>
      obtain ⟨a, rfl, h0, t⟩ := res
      exact h a (by rw [← hH0]; exact h0) t
    | false => exact h x res
  | exn x e c =>
    simp only [q] at r
    intro cls dd σ' H' p ex
    exact r cls dd H' ⟨fun b o e1 e2 e3 => p.keep b o e1 e2 e3 (noOw b), p.there, p.sr.cst, p.sr.tabs⟩ ex
  | bk e c => simp only [q] at r; exact r.elim
  | ct e c => simp only [q] at r; exact r.elim
  | stk => simp only [q] at r; exact r.elim
theorem fn_Gc {x qual : Str} {cc : Addr} {st : Stmt} {f : Addr} {fd : FuncData} {N ps : List Str} {k : Nat} {fr : Bool} {fb : SS} (F : Fun K x qual st f fd) (hcc : fd.code = .ref cc) (S : FnScope N ps (defScope st)) (hN : ps.length ≤ N.length)
    (hbody : ∀ (A : Around) (outer : List Env) (s : Shared) (H : Hp) (E : XK), Room k (A.deeper (envOfC qual (defScope st) s.heap.objs.size f (.ref cc))) →
      JX (cxOf (L2N.CX P w) P w K mg base N qual (defScope st) f (.ref cc) A outer s H E) (fun cls d _ H => E cls d H) → RSs (cxOf (L2N.CX P w) P w K mg base N qual (defScope st) f (.ref cc) A outer s H E) ⟨T, none, none, none⟩ (fun cls d _ H => E cls d H) fr (defBody st) fb) :
    FnOk P w K mg base (L2N.CX P w) (k + 1) f fd ps (spG ⟨K, mg, T, none, none, none⟩ ps.length fr (runF N.length fr fb)) := by
  obtain ⟨oc, od, kV, doc, pm, an, cdv, ct, osl, rfl, lk, hcd⟩ := F.ex
  have hcc : cdv = .ref cc := hcc
  subst hcc
  refine fn_of lk hcd S (fun vs H Q E h => h.1) fun A outer s H vs Q E hr hsp => ⟨_, hbody A outer s H E hr (jx_of S hr), ?_⟩
  obtain ⟨hn, g, cv, ds, S0, hH0, rx, r⟩ := hsp
  have hl : vs.length = ds.length := rx.length
  have noOw : ∀ b, ¬ Ow (start N vs) (env0 N.length ds) b := fun b ⟨i, d, h1, _⟩ => by
    unfold env0 at h1
    by_cases hi : i < ds.length
    · rw [List.getElem?_append_left (by simpa using hi)] at h1
      simp at h1
    · rw [List.getElem?_append_right (by simpa using hi)] at h1
      have := List.mem_of_getElem? h1
      rw [List.mem_replicate] at this
      cases this.2
  have l : Le (hid H g.M) (hid H (Mt g (start N vs) (env0 N.length ds))) := le_hid (fun b o _ e _ => e) fun b z => .inl (z.resolve_right (noOw b))
  have SR1 : SR ⟨K, mg, T, none, none, none⟩ g (start N vs) H (env0 N.length ds) cv := by
    refine ⟨?_, fun i d h => ?_, fun i d h => ?_, fun i d h => ?_, fun i d h => ?_, fun i j d e a h => ?_, S0.cst, S0.cM, S0.mt, S0.ent, S0.there, S0.tabs, S0.lb⟩
    · unfold L2.start env0
      simp [hl]
    · unfold env0 at h
      by_cases hi : i < ds.length
      · rw [List.getElem?_append_left (by simpa using hi)] at h
        rw [List.getElem?_map] at h
        cases q : ds[i]? with
        | none => rw [q] at h; cases h
        | some d' =>
          rw [q] at h
          cases h
          obtain ⟨x, e, r⟩ := rx.get' q
          refine ⟨x, ?_, r.mono l⟩
          unfold L2.start
          rw [List.getElem?_append_left (by rw [List.length_map, hl]; exact hi), List.getElem?_map, e]; rfl
      · rw [List.getElem?_append_right (by simpa using hi)] at h
        have := List.mem_of_getElem? h
        rw [List.mem_replicate] at this
        cases this.2
    · have h1 : (env0 N.length ds)[i]? = some (.own d) := h
      unfold env0 at h1
      by_cases hi : i < ds.length
      · rw [List.getElem?_append_left (by simpa using hi)] at h1
        simp at h1
      · rw [List.getElem?_append_right (by simpa using hi)] at h1
        have := List.mem_of_getElem? h1
        rw [List.mem_replicate] at this
        cases this.2
    · have h1 : (env0 N.length ds)[i]? = some (.bor d) := h
      unfold env0 at h1
      by_cases hi : i < ds.length
      · rw [List.getElem?_append_left (by simpa using hi)] at h1
        simp at h1
      · rw [List.getElem?_append_right (by simpa using hi)] at h1
        have := List.mem_of_getElem? h1
        rw [List.mem_replicate] at this
        cases this.2
    · have h1 : (env0 N.length ds)[i]? = some (.raw d) := h
      unfold env0 at h1
      by_cases hi : i < ds.length
      · rw [List.getElem?_append_left (by simpa using hi)] at h1
        simp at h1
      · rw [List.getElem?_append_right (by simpa using hi)] at h1
        have := List.mem_of_getElem? h1
        rw [List.mem_replicate] at this
        cases this.2
    · have h1 : (env0 N.length ds)[i]? = some (.own d) := h
      unfold env0 at h1
      by_cases hi : i < ds.length
      · rw [List.getElem?_append_left (by simpa using hi)] at h1
        simp at h1
      · rw [List.getElem?_append_right (by simpa using hi)] at h1
        have := List.mem_of_getElem? h1
        rw [List.mem_replicate] at this
        cases this.2
  refine ⟨g, env0 N.length ds, cv, SR1, ?_⟩
  unfold runF at r
  cases q : fb (env0 N.length ds) cv with
  | nx e c =>
    simp only [q] at r
    intro σ' H' p
    have po : Po ⟨K, mg, T, none, none, none⟩ g H H' c := ⟨fun b o e1 e2 e3 => p.keep b o e1 e2 e3 (noOw b), p.there, p.sr.cst, p.sr.tabs⟩
    cases fr with
    | true => exact r.elim
    | false => exact r H' po _ .non
  | rt d c =>
    simp only [q] at r
    intro x H' p
    have po : Po ⟨K, mg, T, none, none, none⟩ g H H' c := ⟨fun b o e1 e2 e3 => p.keep b o e1 e2 e3 (noOw b), p.there, p.cst, p.tabs⟩
    have res := p.res
    have h := r H' po
    cases fr with
    | true =>
      obtain ⟨a, rfl, h0, t⟩ := res
      exact h a (by rw [← hH0]; exact h0) t
    | false => exact h x res
  | exn x e c =>
    simp only [q] at r
    intro cls dd σ' H' p ex
    exact r cls dd H' ⟨fun b o e1 e2 e3 => p.keep b o e1 e2 e3 (noOw b), p.there, p.sr.cst, p.sr.tabs⟩ ex
  | bk e c => simp only [q] at r; exact r.elim
  | ct e c => simp only [q] at r; exact r.elim
  | stk => simp only [q] at r; exact r.elim
end

/-! ### raising -/
def sRaise (nm : Str) : SS := fun env c => .exn ⟨nm, []⟩ env c
/-- an own exception class -/
structure OwnXK (K : PySem.W.Frag) (mg : Str → Option Value) (x : Str) (C : Addr) : Prop where
  ex : ∃ (bmB : List Value) (B newId initId : String), ExcBaseFacts B newId initId bmB ∧ PySem.W.excIn K C bmB newId = true
  mgc : mg x = some (.ref C)
  kp : PySem.W.keepIn K (.ref C) = true
  sub : PySem.W.subIn K (.ref C) (.type "BaseException") = some true
  ty : PySem.W.typeIn K (.ref C) = some (.type "type")
section
variable {X : Cx} {T : Gt} {W : WX} {fr : Bool} {x m : Str} {C : Addr} {jj : Nat} {p p2 p3 pos : Pos}
theorem rs_raise (j : JX X W) (O : OwnXK X.K X.mg x C) (hg : Gl X x := by rfl) (hc : X.calm = true := by rfl) (hdb : (x == ("__debug__" : Str)) = false := by decide) : RS X T W fr (.Raise (some (.Call (.Name x p) [.Constant (.str m) jj p2] [] p3)) none pos) (sRaise x) := by
  obtain ⟨bmB, B, newId, initId, F, q⟩ := O.ex
  exact ps_imp (L2N.ps_raise hc j.tk (L2N.pmk_own F q O.mgc O.kp (raises_own O.sub O.ty) hg hdb)) fun D σ H ⟨g, env, cv, S, r⟩ => r _ none σ H (SPo.refl S) ⟨C, O.mgc, rfl, rfl⟩
end
end G

set_option Elab.async false
set_option linter.all false
set_option maxRecDepth 100000
set_option maxHeartbeats 2000000
namespace G
set_option autoImplicit false
open PySem PySem.Spec PyProof.Rows L2

/-! ### isinstance -/
inductive Ty where
  | int | bool | str | tuple | list | dict
inductive Vt where
  | non | bool | int | str | tuple | list | dict
def Ty.nm : Ty → String
  | .int => "int" | .bool => "bool" | .str => "str" | .tuple => "tuple" | .list => "list" | .dict => "dict"
def Vt.nm : Vt → String
  | .non => "NoneType" | .int => "int" | .bool => "bool" | .str => "str" | .tuple => "tuple" | .list => "list" | .dict => "dict"
def isT : Vt → Ty → Bool
  | .int, .int => true
  | .bool, .int => true
  | .bool, .bool => true
  | .str, .str => true
  | .tuple, .tuple => true
  | .list, .list => true
  | .dict, .dict => true
  | _, _ => false
theorem isT_kit (v : Vt) (t : Ty) : kitB v.nm t.nm = some (isT v t) := by
  cases v <;> cases t <;> decide +kernel
def vtOf : Va → Option Vt
  | .non => some .non
  | .bl _ => some .bool
  | .int _ => some .int
  | .str _ => some .str
  | .tup _ => some .tuple
  | .lst _ => some .list
  | .scr _ => some .list
  | .dic false _ _ => some .dict
  | _ => none
def vIsi (t : Ty) (d : Va) (c : Cv) : Re Va := match vtOf d with
  | some v => .ok (.bl (isT v t)) c
  | none => .stk
section
variable {X : Cx} {T : Gt} {W : WX} {e : Expr} {f : SE} {p p2 p3 pos : Pos} {x : Str}
theorem sqL_ty {H : Hp} {a : Addr} {xs : List V} (h : SqL X.K H a xs) : TyX X.K H (.ref a) (.type "list") := by
  rcases h with (h | ⟨o, h⟩) | ⟨o, _, _, h, hc, _⟩
  · exact .base (.lst h)
  · exact .base (.frz h)
  · exact .kList h hc
theorem ty_of {g : Gh} {H : Hp} {M : Addr → Prop} {y : V} {d : Va} {v : Vt} (h : vtOf d = some v) (r : RepB (gx X T) g (hid H M) H y d) : TyX X.K H y (.type v.nm) := by
  cases d with
  | non => cases h; cases r; exact .base .non
  | bl b => cases h; cases r; exact .base (.bl b)
  | int i => cases h; cases r; exact .base (.int i)
  | str s => cases h; cases r; exact .base (.str s)
  | tup ds =>
    cases h
    cases r with
    | tup hh _ => exact .base (.tup (hid_some hh).2)
  | lst ds => cases h; obtain ⟨a, xs, rfl, _, hh, _⟩ := r; exact .base (.lst hh)
  | scr ns =>
    cases h
    cases r with
    | scr hh => exact sqL_ty (le_hid_of.sqL hh)
  | dic t ks vs =>
    cases t with
    | false =>
      cases h
      obtain ⟨a, rfl, _, kvs, hh, _⟩ := r
      rcases hh with hh | ⟨o, hh⟩
      · exact .base (.dK hh)
      · exact .fDict hh
    | true => cases h
  | fn x => cases h
  | cup => cases h
theorem re_isi (t : Ty) (ha : RB X T W e f) (hm : X.mg "isinstance" = none) (hmt : X.mg x = none) (hb : bootBuiltins x = some (.type t.nm) := by decide +kernel) (hg : Gl X "isinstance" := by rfl) (hgt : Gl X x := by rfl) (hn : x ≠ "__name__" := by decide) (hd : (x == ("__debug__" : Str)) = false := by decide)
    (he : starEach [e, .Name x p2] X.env = (false, eval e X.env) :: starEach [.Name x p2] X.env := by rfl) (he2 : starEach [.Name x p2] X.env = (false, eval (.Name x p2) X.env) :: starEach [] X.env := by rfl) (hpl : (backTo pos (starEach [.Name x p2] X.env)).any (·.1) = false := by rfl) :
    RE X T W (.Call (.Name "isinstance" p) [e, .Name x p2] [] pos) (eB1 f (vIsi t)) :=
  pe_imp (pe_callB call_isi hg hm (by decide +kernel) (pa_cons ha (pa_cons (pe_bltn (v := .ty t.nm) (u := .type t.nm) hgt hmt hb rfl hn hd) pa_nil he2) he) (by decide) (by decide) he hpl) fun σ H Q ⟨g, env, cv, S, r⟩ => one S r fun a c1 H1 y S1 _ rx q => by
    unfold vIsi at q
    cases hv : vtOf a with
    | none => rw [hv] at q; exact q.elim
    | some v =>
      rw [hv] at q
      exact ⟨y, .ty t.nm, _, _, isT v t, rfl, .ty _, ty_of hv rx, kit_ty (isT_kit v t), q H1 (Po.refl S1) _ (.bl _)⟩
end

/-! ### out.append(e), out.extend(es) -/
def sApp (i : Nat) (f : SE) : SS := fun env c => match env[i]? with
  | some (.own (.lst ds)) => (f env c).sbind env fun d c1 => if ds.length < L24 then .nx (env.set i (.own (.lst (ds ++ [d])))) c1 else .stk
  | _ => .stk
def sExt (i : Nat) (f : SE) : SS := fun env c => match env[i]? with
  | some (.own (.lst ds)) => (f env c).sbind env fun d c1 => match d with
    | .lst es => if ds.length + es.length ≤ L24 then .nx (env.set i (.own (.lst (ds ++ es)))) c1 else .stk
    | _ => .stk
  | _ => .stk
section
variable {X : Cx} {T : Gt} {W : WX} {fr : Bool} {e : Expr} {f : SE} {p p2 p3 apos pos : Pos} {x : Str}
theorem own_lst {Γ : Gx} {g : Gh} {σ : St} {H H1 : Hp} {env : Ev} {cv c1 : Cv} {i : Nat} {ds : List Va} (S : SR Γ g σ H env cv) (hi : env[i]? = some (.own (.lst ds))) : ∃ a, σ[i]? = some (some (.ref a)) ∧ g.c ≠ some a ∧ ∃ xs, H a = some (.lst xs) ∧ RepLA Γ g (hid H (Mt g σ env)) xs ds := by
  obtain ⟨a, ea, na, z, xs, h1, h2⟩ := S.own i _ hi
  exact ⟨a, ea, fun q => na (S.cM a q), xs, h1, h2⟩
theorem rs_app (i : Nat) (he : RE X T W e f) (hN : X.N[i]? = some x := by rfl) (hv : Vis X.env.scope x := by first | exact Or.inl rfl | exact Or.inr (Or.inl rfl) | exact Or.inr (Or.inr rfl)) (hd : (x == ("__debug__" : Str)) = false := by decide) (hcd : (x == ("__classdict__" : Str)) = false := by decide)
    (hbase : attributeBase (.Name x p) "append" X.env (eval (.Name x p) X.env) = eval (.Name x p) X.env := by rfl)
    (hfew : ((backTo p3 (starEach [e] X.env)).all (fun x => !x.1) && (backToKw p3 (keywordEach [] X.env)).all (fun x => x.1.isSome) && decide ([e].length + ([] : List Keyword).length + (if ([] : List Keyword).isEmpty then 0 else 1) < 30)) = true := by rfl)
    (hline : (apos.endLine == p3.line) = true := by rfl) (hs : starEach [e] X.env = (false, eval e X.env) :: starEach [] X.env := by rfl) (hplain : (backTo p3 (starEach [] X.env)).any (·.1) = false := by rfl)
    (hsw : swapsWith (.Call (.Attribute (.Name x p) "append" apos) [e] [] p3) none pos.line X.env = pure false := by rfl) : RS X T W fr (.Expr (.Call (.Attribute (.Name x p) "append" apos) [e] [] p3) pos) (sApp i f) :=
  ps_imp (ps_expr (pe_bm PySem.F.plainAttrs_list PySem.F.slot_list_append PySem.F.type_list_append mt_append (pe_var hN hv hd hcd) (pa_cons he pa_nil hs) hbase hfew hline hs hplain) hsw) fun D σ H ⟨g, env, cv, S, r⟩ => by
    unfold sApp at r
    split at r
    · rename_i ds hi
      obtain ⟨a, ea, nc, xs, hx, rx⟩ := own_lst (H1 := H) (c1 := cv) S hi
      refine ⟨_, ea, .inl ⟨rfl, xs, .inl (.inl hx)⟩, g, env, cv, S, (SOut.bnd S r).mono fun d c1 H1 p q y ry => ?_⟩
      have S1 := S.after p
      have hx1 := p.keep a _ hx (fun ps z => by cases z) nc
      have q2 := q.2
      split at q2
      · rename_i hlt
        have hl : xs.length < sizeLine := by rw [rx.length, ← l24]; exact hlt
        refine ⟨a, xs, y, rfl, rfl, hx1, hl, q2 _ _ (SR.mut S1 hi ea ⟨_, upd_same, ?_⟩ trivial)⟩
        exact (rx.mono (p.le S)).append (.cons ry .nil)
      · exact q2.elim
    · exact r.elim
theorem rs_ext (i : Nat) (he : RB X T W e f) (hN : X.N[i]? = some x := by rfl) (hv : Vis X.env.scope x := by first | exact Or.inl rfl | exact Or.inr (Or.inl rfl) | exact Or.inr (Or.inr rfl)) (hd : (x == ("__debug__" : Str)) = false := by decide) (hcd : (x == ("__classdict__" : Str)) = false := by decide)
    (hbase : attributeBase (.Name x p) "extend" X.env (eval (.Name x p) X.env) = eval (.Name x p) X.env := by rfl)
    (hfew : ((backTo p3 (starEach [e] X.env)).all (fun x => !x.1) && (backToKw p3 (keywordEach [] X.env)).all (fun x => x.1.isSome) && decide ([e].length + ([] : List Keyword).length + (if ([] : List Keyword).isEmpty then 0 else 1) < 30)) = true := by rfl)
    (hline : (apos.endLine == p3.line) = true := by rfl) (hs : starEach [e] X.env = (false, eval e X.env) :: starEach [] X.env := by rfl) (hplain : (backTo p3 (starEach [] X.env)).any (·.1) = false := by rfl)
    (hsw : swapsWith (.Call (.Attribute (.Name x p) "extend" apos) [e] [] p3) none pos.line X.env = pure false := by rfl) : RS X T W fr (.Expr (.Call (.Attribute (.Name x p) "extend" apos) [e] [] p3) pos) (sExt i f) :=
  ps_imp (ps_expr (pe_bm PySem.F.plainAttrs_list PySem.F.slot_list_extend PySem.F.type_list_extend mt_extend (pe_var hN hv hd hcd) (pa_cons he pa_nil hs) hbase hfew hline hs hplain) hsw) fun D σ H ⟨g, env, cv, S, r⟩ => by
    unfold sExt at r
    split at r
    · rename_i ds hi
      obtain ⟨a, ea, nc, xs, hx, rx⟩ := own_lst (H1 := H) (c1 := cv) S hi
      refine ⟨_, ea, .inl ⟨rfl, xs, .inl (.inl hx)⟩, g, env, cv, S, (SOut.bnd S r).mono fun d c1 H1 p q y ry => ?_⟩
      have S1 := S.after p
      have hx1 := p.keep a _ hx (fun ps z => by cases z) nc
      have q2 := q.2
      split at q2
      · split at q2
        · rename_i es hlt
          obtain ⟨b, zs, rfl, _, hz, rz⟩ := ry
          have hl : xs.length + zs.length ≤ sizeLine := by rw [rx.length, rz.length, ← l24]; exact hlt
          refine ⟨a, b, xs, zs, rfl, rfl, hx1, hz, hl, q2 _ _ (SR.mut S1 hi ea ⟨_, upd_same, ?_⟩ trivial)⟩
          exact (rx.mono (p.le S)).append rz
        · exact q2.elim
      · exact q2.elim
    · exact r.elim
end

/-! ### the cup -/
def sCupSet (k : Nat) (fo f : SE) : SS := fun env c => (f env c).sbind env fun d c1 => (fo env c1).sbind env fun o c2 => match o, d, c2 with
  | .cup, .int n, some (x, y) => .nx env (if k = 0 then some (n, y) else some (x, n))
  | _, _, _ => .stk
section
variable {X : Cx} {T : Gt} {W : WX} {fr : Bool} {e o : Expr} {f fo : SE} {p p2 p3 apos pos : Pos} {x : Str}
theorem SR.cupPut {Γ : Gx} {g : Gh} {σ : St} {H : Hp} {env : Ev} {x y : Int} {a : Addr} (S : SR Γ g σ H env (some (x, y))) (hc : g.c = some a) (x' y' : Int) : Po Γ g H (upd H a (.lst [.int x', .int y'])) (some (x', y')) := by
  have h := S.cst
  rw [hc] at h
  have h : H a = some (.lst [.int x, .int y]) := h
  refine ⟨fun b o e t n => by rw [upd_ne (fun z => n (by rw [hc, z]))]; exact e, fun b o e => ?_, ?_, tabs_mut S.tabs h trivial⟩
  · by_cases z : b = a
    · subst z; exact ⟨_, upd_same⟩
    · exact ⟨o, by rw [upd_ne z]; exact e⟩
  · rw [hc]
    exact upd_same
theorem rs_cupset (k : Nat) (hk : k = 0 ∨ k = 1) {jj : Nat} (he : RE X T W e f) (ho : RE X T W o fo) (hs : swapsWithSole [.Subscript o (.Constant (.int k) jj p2) p] e pos.line X.env = pure false := by rfl)
    (hw : swappedStores [.Subscript o (.Constant (.int k) jj p2) p] e X.env = pure none := by rfl) (h1 : (assignEach [.Subscript o (.Constant (.int k) jj p2) p] X.env).map (·.2) = [assign (.Subscript o (.Constant (.int k) jj p2) p) X.env] := by rfl)
    (ha : ∀ v, assign (.Subscript o (.Constant (.int k) jj p2) p) X.env v = (do
      let ov ← holding [v] (eval o X.env)
      let iv ← holding [v, ov] (eval (.Constant (.int k) jj p2) X.env)
      standAt p
      holding [v, ov, iv] (setItem ov iv v)
      release [v, ov, iv] []) := by intro _; rfl) : RS X T W fr (.Assign [.Subscript o (.Constant (.int k) jj p2) p] e pos) (sCupSet k fo f) :=
  ps_imp (ps_asg he (pg_sub ho pe_int set_list ha) hs hw h1) fun D σ H ⟨g, env, cv, S, r⟩ => ⟨g, env, cv, S, (SOut.bnd S r).mono fun d c1 H1 p q v rv => ⟨g, env, c1, S.after p, (SOut.bnd (S.after p) q.2).mono fun od c2 H2 p2 q u ru => by
    have q2 := q.2
    have S2 := (S.after p).after p2
    cases od with
    | cup =>
      cases d with
      | int n =>
        cases c2 with
        | none => exact q2.elim
        | some xy =>
          obtain ⟨x, y⟩ := xy
          cases rv
          cases ru with
          | @cup a hc =>
            have hH : H2 a = some (.lst [.int x, .int y]) := by
              have h := S2.cst
              rw [hc] at h
              exact h
            rcases hk with rfl | rfl
            · refine ⟨a, _, _, 0, rfl, rfl, hH, rfl, ?_⟩
              exact q2 _ _ (SPo.po S2 (S2.cupPut hc n y))
            · refine ⟨a, _, _, 1, rfl, rfl, hH, rfl, ?_⟩
              exact q2 _ _ (SPo.po S2 (S2.cupPut hc x n))
      | _ => exact q2.elim
    | _ => exact q2.elim⟩⟩
/-- from here on the own list in slot i is the cup; the def gives a bool -/
def sCup (i : Nat) (h : SS) : SS := fun env c => match env[i]?, c with
  | some (.own (.lst [.int x, .int y])), none => match h (env.set i (.val .cup)) (some (x, y)) with
    | .rt (.bl b) _ => .rt (.bl b) none
    | _ => .stk
  | _, _ => .stk
mutual
theorem Rep.someCup {K : PySem.W.Frag} {mg : Str → Option Value} {H : Hp} (a : Addr) : ∀ {x : V} {d : Va}, Rep K mg none H x d → Rep K mg (some a) H x d
  | _, _, .non => .non
  | _, _, .bl b => .bl b
  | _, _, .int i => .int i
  | _, _, .str s => .str s
  | _, _, .tup h r => .tup h (RepL.someCup a r)
  | _, _, .lst h r => .lst h (RepL.someCup a r)
  | _, _, .scr h => .scr h
  | _, _, .dic h e r => .dic h e (RepL.someCup a r)
  | _, _, .dicT h e r => .dicT h e (RepL.someCup a r)
  | _, _, .fn e => .fn e
theorem RepL.someCup {K : PySem.W.Frag} {mg : Str → Option Value} {H : Hp} (a : Addr) : ∀ {xs : List V} {ds : List Va}, RepL K mg none H xs ds → RepL K mg (some a) H xs ds
  | _, _, .nil => .nil
  | _, _, .cons p q => .cons (Rep.someCup a p) (RepL.someCup a q)
end
theorem SR.cupOn {Γ : Gx} (hlb : Γ.lb = none) {g : Gh} {σ : St} {H : Hp} {env : Ev} {i : Nat} {x y : Int} (S : SR Γ g σ H env none) (hi : env[i]? = some (.own (.lst [.int x, .int y]))) :
    ∃ a, σ[i]? = some (some (.ref a)) ∧ SR Γ ⟨some a, fun b => g.M b ∨ b = a, g.H0⟩ σ H (env.set i (.val .cup)) (some (x, y)) ∧ g.c = none ∧ ∀ b, Ow σ (env.set i (.val .cup)) b → Ow σ env b := by
  obtain ⟨a, ea, na, z0, xs, hx, rx⟩ := S.own i _ hi
  have hc : g.c = none := by
    have h := S.cst
    cases q : g.c with
    | none => rfl
    | some b => rw [q] at h; exact h.elim
  have ow : ∀ b, Ow σ (env.set i (.val .cup)) b → Ow σ env b := fun b ⟨j, e, h1, h2⟩ => by
    rcases get_set h1 with ⟨q, e1⟩ | ⟨q, e1⟩
    · cases e1
    · exact ⟨j, e, e1, h2⟩
  have l : Le (hid H (Mt g σ env)) (hid H (Mt ⟨some a, fun b => g.M b ∨ b = a, g.H0⟩ σ (env.set i (.val .cup)))) := le_hid (fun b o _ e _ => e) fun b z => by
    rcases z with (z | z) | z
    · exact .inl (.inl z)
    · exact .inl (.inr ⟨i, _, hi, by rw [z]; exact ea⟩)
    · exact .inl (.inr (ow b z))
  have up : ∀ {x d}, RepA Γ g (hid H (Mt g σ env)) x d → RepA Γ ⟨some a, fun b => g.M b ∨ b = a, g.H0⟩ (hid H (Mt ⟨some a, fun b => g.M b ∨ b = a, g.H0⟩ σ (env.set i (.val .cup)))) x d := fun r => by
    have r2 := r.mono l
    unfold RepA at r2 ⊢
    rw [hc] at r2
    exact r2.someCup a
  have upL : ∀ {x d}, RepLA Γ g (hid H (Mt g σ env)) x d → RepLA Γ ⟨some a, fun b => g.M b ∨ b = a, g.H0⟩ (hid H (Mt ⟨some a, fun b => g.M b ∨ b = a, g.H0⟩ σ (env.set i (.val .cup)))) x d := fun r => by
    have r2 := r.mono l
    unfold RepLA at r2 ⊢
    rw [hc] at r2
    exact r2.someCup a
  have hcst : H a = some (.lst [.int x, .int y]) := by
    have e := RepL.ints (ns := [x, y]) rx
    rw [hx, e]; rfl
  refine ⟨a, ea, ⟨by simp [S.len], fun j e h => ?_, fun j e h => ?_, fun j e h => ?_, raw_setE S.raw (fun _ z => nomatch z), fun j k e1 e2 b h1 h2 h3 h4 => ?_, hcst, fun b z => ?_, fun b z => ?_, fun b o e t n => S.ent b o e t (by rw [hc]; intro z; cases z), S.there, S.tabs, fun g0 e => by rw [hlb] at e; cases e⟩, hc, ow⟩
  · rcases get_set h with ⟨q, e1⟩ | ⟨q, e1⟩
    · cases e1
      subst q
      exact ⟨_, ea, .cup rfl⟩
    · obtain ⟨y, e2, r⟩ := S.val j e e1
      exact ⟨y, e2, up r⟩
  · rcases get_set h with ⟨q, e1⟩ | ⟨q, e1⟩
    · cases e1
    · obtain ⟨b, e2, n, z, t⟩ := S.own j e e1
      have nab : b ≠ a := fun w => by
        subst w
        exact q (S.sep i j _ _ _ hi e1 ea e2)
      refine ⟨b, e2, fun z => z.elim n nab, z, ?_⟩
      cases e with
      | lst ds => obtain ⟨xs, h1, h2⟩ := t; exact ⟨xs, h1, upL h2⟩
      | dic t1 ks vs => cases t1 <;> (obtain ⟨kvs, h1, h2, h3⟩ := t; exact ⟨kvs, h1, h2, upL h3⟩)
      | _ => exact t.elim
  · rcases get_set h with ⟨q, e1⟩ | ⟨q, e1⟩
    · cases e1
    · obtain ⟨y, e2, r⟩ := S.bor j e e1
      refine ⟨y, e2, ?_⟩
      have nc : ∀ {b : Addr} {o : HO}, g.H0 b = some o → (some a : Option Addr) ≠ some b := fun {b o} e z => by
        cases z
        rw [z0] at e; cases e
      cases e with
      | lst ds => obtain ⟨b, xs, rfl, _, h1, h2⟩ := r; exact ⟨b, xs, rfl, nc h1, h1, upL h2⟩
      | dic t1 ks vs =>
        cases t1 <;> (obtain ⟨b, rfl, _, kvs, h1, h2, h3⟩ := r; exact ⟨b, rfl, by (rcases h1 with h | ⟨_, h⟩ <;> exact nc h), kvs, h1, h2, upL h3⟩)
      | _ => exact up r
  · rcases get_set h1 with ⟨q, e1⟩ | ⟨q, e1⟩
    · cases e1
    · rcases get_set h2 with ⟨q2, e2⟩ | ⟨q2, e2⟩
      · cases e2
      · exact S.sep j k _ _ b e1 e2 h3 h4
  · cases z; exact .inr rfl
  · rcases z with z | z
    · exact S.mt b z
    · exact ⟨_, by rw [z]; exact hcst⟩
theorem rss_cup {sts : List Stmt} {h : SS} (i : Nat) (hlb : T.lb = none) (hs : RSs X T W false sts h) : RSs X T W false sts (sCup i h) :=
  pss_imp hs fun D σ H ⟨g, env, cv, S, r⟩ => by
    unfold sCup at r
    split at r
    · rename_i x y hi
      obtain ⟨a, ea, S', hc, ow⟩ := S.cupOn hlb hi
      refine ⟨_, _, _, S', ?_⟩
      have own_a : Ow σ env a := ⟨i, _, hi, ea⟩
      cases q : h (env.set i (.val .cup)) (some (x, y)) with
      | rt d c =>
        rw [q] at r
        cases d with
        | bl b =>
          intro v H' p
          refine r v H' ⟨fun b o e t n w => p.keep b o e t (fun z => by cases z; exact w own_a) fun z => w (ow b z), p.there, ?_, p.tabs, ?_⟩
          · rw [hc]; trivial
          · have := p.res
            cases this
            exact .bl b
        | _ => exact r.elim
      | nx e c => rw [q] at r; exact r.elim
      | bk e c => rw [q] at r; exact r.elim
      | ct e c => rw [q] at r; exact r.elim
      | exn x e c => rw [q] at r; exact r.elim
      | stk => rw [q] at r; exact r.elim
    · exact r.elim
end
end G

set_option Elab.async false
set_option linter.all false
set_option maxRecDepth 100000
set_option maxHeartbeats 2000000
namespace G
set_option autoImplicit false
open PySem PySem.Spec PyProof.Rows L2

/-! ### try with several clauses 'except x as n' -/
abbrev TSx := Addr → Value → Option Addr → TS
inductive HdsN (X : Cx) : List ExceptHandler → List (Value × Nat × TSx) → Prop
  | nil : HdsN X [] []
  | cons {x n : Str} {c : Value} {i : Nat} {ts : TSx} {b : Stmt} {su : List Stmt} {p1 p2 : Pos} {hs : List ExceptHandler} {l : List (Value × Nat × TSx)} (hc : Names X x c) (hi : X.N[i]? = some n) (hk : X.env.kindOf n = some .local)
      (h : ∀ (a : Addr) (oe : Obj) (cls : Value) (d : Option Addr) (pn : List (Addr × Obj)), L2N.Zn cls d oe → (∃ vs, oe.data = .fields vs) → PSs (X.suite a ((a, oe) :: pn)) (b :: su) (ts a cls d)) (r : HdsN X hs l) :
      HdsN X (.ExceptHandler (some (.Name x p1)) (some n) (b :: su) p2 :: hs) ((c, i, ts) :: l)
/-- the ends of a suite whose name goes -/
def Ends.gone (D : Ends) (i : Nat) : Ends := ⟨fun σ H => D.nx (σ.set i none) H, D.rt, fun σ H => D.bk (σ.set i none) H, fun σ H => D.ct (σ.set i none) H⟩
def wN (K : PySem.W.Frag) (Wout : WX) (D : Ends) : List (Value × Nat × TSx) → WX
  | [] => Wout
  | (c, i, ts) :: r => fun cls d σ H => ∃ b, PySem.W.exmOne K cls c = some b ∧ (b = true → ∀ a, H a = none → ts a cls d (Ends.gone D i) (σ.set i (some (.ref a))) H) ∧ (b = false → wN K Wout D r cls d σ H)
section
variable {X : Cx} {pins : List (Addr × Obj)} {σ : St} {H : Hp} {sI s : Shared} {B : Heap} {a : Addr} {cls : Value} {d : Option Addr} {h₃ : Heap} {D : Ends} {Wout : WX}
/-- what is known of an exception that has come down -/
structure Down (X : Cx) (pins : List (Addr × Obj)) (σ : St) (H : Hp) (sI s : Shared) (B : Heap) (a : Addr) (cls : Value) (d : Option Addr) (h : Heap) : Prop where
  inv : Inv X pins σ H sI
  nb : ∀ b o, sI.heap.get? b = some o → b ∉ frs X.stack → B.get? b = some o
  up : sI.heap.UpToSlots h
  fl : HandSPX.FlyingZ B (X.env :: X.outer) a (L2N.Zn cls d) h
  na : H a = none
  os : s.os = sI.os
  ag : AllBare s.gens
theorem Down.there (x : Down X pins σ H sI s B a cls d h₃) (hf : X.env.frame = some X.env.locals) : Inv X pins σ H { s with heap := h₃ } ∧ ∃ oe vs, h₃.get? a = some oe ∧ L2N.Zn cls d oe ∧ oe.data = .fields vs ∧ Inv (X.suite a ((a, oe) :: (X.pn ++ pins))) [] σ H { s with heap := h₃ } := by
  have J : Inv X pins σ H { s with heap := h₃ } := x.inv.landed x.nb x.fl.1 x.up x.os x.ag
  obtain ⟨oe, vs, e1, e2, e3⟩ := x.fl.there
  have out : a ∉ frs (X.env :: X.outer) := by
    intro hm
    have fn := x.fl.2.2.1
    obtain ⟨_, o, eo, no⟩ := fn.mem hm
    rw [e1] at eo
    cases eo
    exact no _ e3
  refine ⟨J, oe, vs, e1, e2, e3, J.suite e1 e3 x.na (fun z => out ?_) fun hm => out ?_⟩
  · exact List.mem_filterMap.mpr ⟨X.env, List.mem_cons_self, by rw [hf, z]⟩
  · obtain ⟨e, m1, m2⟩ := List.mem_filterMap.mp hm
    exact List.mem_filterMap.mpr ⟨e, List.mem_cons_of_mem _ m1, m2⟩
theorem hds_go (hs : X.stack = X.env :: X.outer) (hf : X.env.frame = some X.env.locals) (hN : X.N.Nodup) (tk : L2N.Takes X Wout) (x : Down X pins σ H sI s B a cls d h₃) {hds : List ExceptHandler} {l : List (Value × Nat × TSx)} (hk : HdsN X hds l) :
    wN X.K Wout D l cls d σ H → wpAny (model X.prog X.w) X.A (handleBy (.ref a) X.env hds) (SP X pins D) X.xe { s with heap := h₃ } := by
  have ok := x.inv.ok
  obtain ⟨J3, oe3, vs3, he3, hz3, hd3, S3⟩ := x.there hf
  induction hk with
  | nil =>
    intro w
    refine wpAny_handleBy_nil ?_
    have fl := x.fl
    obtain ⟨_, _, _, oe, vs, T, oT, ts', q1, q2, q3, q4, q5⟩ := id fl
    unfold PySem.passOn
    refine wpAny_bind (wpAny_field q1 q3 q4 ?_)
    have neq : ¬ ((Value.ref T == Value.none) = true) := by simp
    rw [if_neg neq]
    have last : wpAny (model X.prog X.w) X.A (setFlight (.ref a) X.env.frame) (fun _ s4 => wpAny (model X.prog X.w) X.A (throw (.ref a) : Sem Flow) (SP X pins D) X.xe s4) X.xe { s with heap := h₃ } := by
      rw [hf]
      refine HandSPX.setFlight_upZ fl fun h4 hh up4 => wpAny_throw (tk _ _ ⟨a, B, sI, pins, σ, H, cls, d, rfl, x.inv, x.nb, x.up.trans up4, .inr (.inr ?_), x.na, x.os, x.ag, w⟩)
      rw [hs]; exact hh
    first
      | exact wpAny_bind (wpAny_pure (wpAny_bind last))
      | exact wpAny_bind last
  | @cons y n c i ts b su p1 p2 hds2 l2 hc hi hln hsu r ih =>
    intro w
    obtain ⟨yes, m1, m2, m3⟩ := w
    refine wpAny_handleBy_cons (codeAny_handlers_test ?_) (fun q => nomatch q)
    have ofTy : PySem.W.Looks (model X.prog X.w) h₃ (typeOf (.ref a)) cls := by
      intro A Q E s k q
      exact wpAny_typeOf_ref (k _ _ he3) (by rw [hz3.1]; exact q)
    have looked := PySem.W.exm_one (M := model X.prog X.w) J3.kIn ofTy m1
    have named : ∀ {Q E : Value → Shared → Prop}, Q c { s with heap := h₃ } → wpAny (model X.prog X.w) (X.A.mark (some (.ref a))) (eval (.Name y p1) X.env) Q E { s with heap := h₃ } := by
      intro Q E q
      obtain ⟨g1, g2, g3 | ⟨g3, g4, g5⟩⟩ := hc
      · exact ld_glob (X := X.suite a ((a, oe3) :: (X.pn ++ pins))) S3 g1 g3 q g2
      · exact ld_blt (X := X.suite a ((a, oe3) :: (X.pn ++ pins))) S3 g1 g3 g4 q g5 g2
    refine named (looked.here ?_)
    cases yes with
    | false => exact ih (m3 rfl)
    | true =>
      refine codeAny_handlers_suite_as (HandSPX.lands_againZ x.fl fun h4 fl4 up4 => ?_)
      have x4 : Down X pins σ H sI s B a cls d h4 := ⟨x.inv, x.nb, x.up.trans up4, fl4, x.na, x.os, x.ag⟩
      obtain ⟨_, oe4, vs4, he4, hz4, hd4, S4⟩ := x4.there hf
      refine store_ok (X := X.suite a ((a, oe4) :: (X.pn ++ pins))) (v := .ref a) S4 hN hi (.inl hln) rfl (fun s5 S5 => ?_) (.inr hln)
      refine wpAny_mono ((hsu a oe4 cls d (X.pn ++ pins) hz4 ⟨_, hd4⟩).run [] s5 _ H _ S5 (m2 rfl a x.na)) (fun f s6 out => ?_) fun _ _ z => z.elim
      have fin : ∀ {σ6 : St} {H6 : Hp} {Q : Shared → Prop}, Inv (X.suite a ((a, oe4) :: (X.pn ++ pins))) [] σ6 H6 s6 → (∀ s7, Inv X pins (σ6.set i none) H6 s7 → Q s7) → wpAny (model X.prog X.w) X.A (do bindName X.env n .none; unbindBehindTheSuite X.env n p2) (fun _ s7 => Q s7) X.xe s6 :=
        fun {σ6 H6 Q} S6 q => gone_ok (S6.unsuite ok) hN hi hln q
      cases f with
      | ret u => obtain ⟨v6, σ6, H6, S6, r6, q6⟩ := out; exact fin S6 fun s7 J7 => ⟨_, _, _, J7, r6, q6⟩
      | next => obtain ⟨σ6, H6, S6, q6⟩ := out; exact fin S6 fun s7 J7 => ⟨_, _, J7, q6⟩
      | brk => obtain ⟨σ6, H6, S6, q6⟩ := out; exact fin S6 fun s7 J7 => ⟨_, _, J7, q6⟩
      | cont => obtain ⟨σ6, H6, S6, q6⟩ := out; exact fin S6 fun s7 J7 => ⟨_, _, J7, q6⟩
end
theorem ps_try_named {X : Cx} {Wout : WX} {body : List Stmt} {hd : ExceptHandler} {hds : List ExceptHandler} {l : List (Value × Nat × TSx)} {tb : WX → TS} {pos : Pos} (hs : X.stack = X.env :: X.outer) (hf : X.env.frame = some X.env.locals) (hN : X.N.Nodup) (tk : L2N.Takes X Wout)
    (hb : ∀ (W : WX) (pn : List (Addr × Obj)) (xe : Value → Shared → Prop), L2N.Takes (X.tr pn xe) W → PassesOwn (model X.prog X.w) X.A X.env xe → PSs (X.tr pn xe) body (tb W)) (hh : HdsN X (hd :: hds) l) :
    PS X (.Try body (hd :: hds) [] [] pos) (fun D σ H => tb (wN X.K Wout D l) D σ H) := by
  constructor
  intro pins s σ H D I q
  have ok := I.ok
  have hfr : X.A.frames = some (X.env :: X.outer) := by rw [ok.frames, hs]
  have back : ∀ {σ' H' s'}, Inv (X.tr (X.pn ++ pins) (fun e s₁ => wpAny (model X.prog X.w) X.A (noteFrame e X.env) (fun _ s₂ => wpAny (model X.prog X.w) X.A (setFlight e none) (fun _ s₃ => wpAny (model X.prog X.w) X.A (handleBy e X.env (hd :: hds)) (SP X pins D) X.xe s₃) X.xe s₂) X.xe s₁)) [] σ' H' s' → Inv X pins σ' H' s' := fun J => J.ofTry ok
  refine wpAny_Try_except (wpAny_mono ((hb (wN X.K Wout D l) (X.pn ++ pins) _ (fun u s' xx => ?_) PassesOwn.looking).run [] s σ H D (I.toTry _) q) (fun f s1 out => ?_) fun _ _ he => he)
  · obtain ⟨a, B, sI, pins', σ', H', cls, d, rfl, J', nb, up, sky, na, os, ag, w⟩ := xx
    have sky' : L2.Sky B (X.env :: X.outer) a (L2N.Zn cls d) X.env.locals s'.heap := by rw [← hs]; exact sky
    show wpAny (model X.prog X.w) X.A (noteFrame (.ref a) X.env) _ _ _
    exact L2N.Sky.land L2N.Zn.steady hfr hf sky' fun h3 fl3 up3 => hds_go hs hf hN tk ⟨J'.ofTry ok, nb, up.trans up3, fl3, na, os, ag⟩ hh w
  · cases f with
    | next => obtain ⟨σ', H', J', q⟩ := out; exact wpAny_execs_nil ⟨σ', H', back J', q⟩
    | brk => obtain ⟨σ', H', J', q⟩ := out; exact ⟨σ', H', back J', q⟩
    | cont => obtain ⟨σ', H', J', q⟩ := out; exact ⟨σ', H', back J', q⟩
    | ret v => obtain ⟨y, σ', H', J', r, q⟩ := out; exact ⟨y, σ', H', back J', r, q⟩
end G

set_option Elab.async false
set_option linter.all false
set_option maxRecDepth 100000
set_option maxHeartbeats 2000000
namespace G
set_option autoImplicit false
open PySem PySem.Spec PyProof.Rows L2

/-! ### try, by meanings -/
theorem JX.tr {X : Cx} {W W' : WX} (j : JX X W) {pn : List (Addr × Obj)} {xe : Value → Shared → Prop} (tk : L2N.Takes (X.tr pn xe) W') (po : PassesOwn (model X.prog X.w) X.A X.env xe) : JX (X.tr pn xe) W' := ⟨tk, j.nd, j.hu, po⟩
theorem JX.suite {X : Cx} {W : WX} (j : JX X W) (a : Addr) (pn : List (Addr × Obj)) : JX (X.suite a pn) WF := ⟨takesF, j.nd, j.hu, PassesOwn.never⟩
def noExc (env : Ev) : Bool := env.all fun s => match s with
  | .raw (.exc _) => false
  | _ => true
abbrev Sup := Str → Str → Option Bool
def onlyRet : Rs → Rs
  | .rt d c => .rt d c
  | _ => .stk
def handleS (sup : Sup) (e : Exn) (env : Ev) (c : Cv) : List (Str × Nat × SS) → Rs
  | [] => .exn e env c
  | (n, i, h) :: r => match sup e.nm n with
    | some true => onlyRet (h (env.set i (.raw (.exc e))) c)
    | some false => handleS sup e env c r
    | none => .stk
def sTry (sup : Sup) (body : SS) (hs : List (Str × Nat × SS)) : SS := fun env c => match body env c with
  | .exn e env' c' => if noExc env' = true then handleS sup e env' c' hs else .stk
  | .nx e c => .nx e c
  | .bk e c => .bk e c
  | .ct e c => .ct e c
  | .rt d c => .rt d c
  | .stk => .stk
def Gt.exc (T : Gt) (a : Addr) (e : Exn) : Gt := ⟨T.tb, T.lf, some (a, e), T.lb⟩
/-- the classes of exceptions -/
def SupOkK (K : PySem.W.Frag) (mg : Str → Option Value) (sup : Sup) : Prop := ∀ e n b, sup e n = some b → ∃ (C : Addr) (c2 : Value) (v : V), mg e = some (.ref C) ∧ (mg n = some c2 ∨ (mg n = none ∧ bootBuiltins n = some c2 ∧ n ≠ "__name__")) ∧ RelV v c2 ∧ (∀ u, RelV v u → u = c2) ∧
  ExcC K C ∧ PySem.W.kitOne K (.ref C) c2 = some b ∧ PySem.W.exmOne K (.ref C) c2 = some b
abbrev SupOk (X : Cx) (sup : Sup) : Prop := SupOkK X.K X.mg sup
/-- the clauses, each with its meaning -/
inductive HdsG (X : Cx) (T : Gt) (fr : Bool) : List ExceptHandler → List (Str × Nat × SS) → Prop
  | nil : HdsG X T fr [] []
  | cons {x n : Str} {c : Value} {i : Nat} {h : SS} {b : Stmt} {su : List Stmt} {p1 p2 : Pos} {hs : List ExceptHandler} {l : List (Str × Nat × SS)} (hg : Gl X x) (hd : (x == ("__debug__" : Str)) = false) (hi : X.N[i]? = some n) (hk : X.env.kindOf n = some .local) (hm : X.mg x = some c)
      (hj : ∀ (a : Addr) (oe : Obj) (e : Exn) (C : Addr) (pn : List (Addr × Obj)), X.mg e.nm = some (.ref C) → (e.fs = [] → L2N.Zn (.ref C) none oe) → (∃ vs, oe.data = .fields vs) → RSs (X.suite a ((a, oe) :: pn)) (T.exc a e) WF fr (b :: su) h) (r : HdsG X T fr hs l) :
      HdsG X T fr (.ExceptHandler (some (.Name x p1)) (some n) (b :: su) p2 :: hs) ((x, i, h) :: l)
section
variable {X : Cx} {T : Gt} {fr : Bool} {W : WX}
theorem SR.setExc {g : Gh} {σ : St} {H : Hp} {env : Ev} {cv : Cv} {i : Nat} {a : Addr} {e : Exn} (S : SR (gx X T) g σ H env cv) (ne : noExc env = true) : SR (gx X (T.exc a e)) g (σ.set i (some (.ref a))) H (env.set i (.raw (.exc e))) cv ∧
    ∀ b, Ow (σ.set i (some (.ref a))) (env.set i (.raw (.exc e))) b → Ow σ env b := by
  have sub : ∀ b, Ow (σ.set i (some (.ref a))) (env.set i (.raw (.exc e))) b → Ow σ env b := fun b h => by
    rcases ow_set h with ⟨_, z, _⟩ | h
    · cases z
    · exact h
  have l : Le (hid H (Mt g σ env)) (hid H (Mt g (σ.set i (some (.ref a))) (env.set i (.raw (.exc e))))) := le_hid (fun b o _ e _ => e) fun b z => .inl (z.imp id (sub b))
  refine ⟨⟨by simp [S.len], fun j e h => ?_, fun j e h => ?_, fun j e h => ?_, fun j k h => ?_, fun j k e1 e2 b h1 h2 h3 h4 => ?_, S.cst, S.cM, S.mt, S.ent, S.there, S.tabs, S.lb⟩, sub⟩
  · rcases get_set h with ⟨q, e1⟩ | ⟨q, e1⟩
    · cases e1
    · obtain ⟨y, e2, r⟩ := S.val j e e1
      exact ⟨y, by rw [List.getElem?_set_ne q]; exact e2, Rep.mono l r⟩
  · rcases get_set h with ⟨q, e1⟩ | ⟨q, e1⟩
    · cases e1
    · obtain ⟨y, e2, n, z, t⟩ := S.own j e e1
      exact ⟨y, by rw [List.getElem?_set_ne q]; exact e2, n, z, Top.mono (Γ := gx X (T.exc _ _)) t l fun _ e => e⟩
  · rcases get_set h with ⟨q, e1⟩ | ⟨q, e1⟩
    · cases e1
    · obtain ⟨y, e2, r⟩ := S.bor j e e1
      exact ⟨y, by rw [List.getElem?_set_ne q]; exact e2, RepB.mono (Γ := gx X (T.exc _ _)) l (fun _ _ e _ _ => e) r⟩
  · rcases get_set h with ⟨q, e1⟩ | ⟨q, e1⟩
    · cases e1
      subst q
      have hl : i < σ.length := by
        rw [S.len]
        have := List.getElem?_eq_some_iff.mp h
        simpa using this.1
      exact ⟨a, rfl, List.getElem?_set_self hl⟩
    · obtain ⟨b, h1, h2⟩ := S.raw j k e1
      refine ⟨b, ?_, by rw [List.getElem?_set_ne q]; exact h2⟩
      cases k with
      | lam => exact h1
      | exc e' =>
        have := List.all_eq_true.mp ne _ (List.mem_of_getElem? e1)
        cases this
  · rcases get_set h1 with ⟨q, e1⟩ | ⟨q, e1⟩
    · cases e1
    · rcases get_set h2 with ⟨q2, e2⟩ | ⟨q2, e2⟩
      · cases e2
      · rw [List.getElem?_set_ne q] at h3
        rw [List.getElem?_set_ne q2] at h4
        exact S.sep j k _ _ b e1 e2 h3 h4
def tsG (X : Cx) (T : Gt) (fr : Bool) (h : SS) : TSx := fun a cls d D σ H => ∃ e : Exn, ExR X.mg e cls d H ∧ TSD (gx X (T.exc a e)) WF fr h D σ H
theorem hdsN_of {sup : Sup} (so : SupOk X sup) : ∀ {hs l}, HdsG X T fr hs l → ∃ l', HdsN X hs l' ∧ ∀ {g : Gh} {σ σ' : St} {H H' : Hp} {env env' : Ev} {c' : Cv} {e : Exn} {cls : Value} {d : Option Addr} {D : Ends},
    SPo (gx X T) g σ H env σ' H' env' c' → noExc env' = true → ExR X.mg e cls d H' → SOut (gx X T) W fr g σ H env D (handleS sup e env' c' l) → wN X.K W D l' cls d σ' H'
  | _, _, .nil => ⟨[], .nil, fun {g σ σ' H H' env env' c' e cls d D} p _ ex r => r cls d σ' H' p ex⟩
  | _, _, .cons (x := x) (n := n) (c := c) (i := i) (h := h) (l := l) hg hd hi hk hm hj r => by
    obtain ⟨l', h1, h2⟩ := hdsN_of so r
    refine ⟨(c, i, tsG X T fr h) :: l', .cons ⟨hg, hd, .inl hm⟩ hi hk (fun a oe cls d pn hz hv => ?_) h1, fun {g σ σ' H H' env env' c' e cls d D} p ne ex q => ?_⟩
    · refine ⟨fun pins s σ H D I q => ?_⟩
      obtain ⟨e, ⟨C, m1, m2, m3⟩, q⟩ := q
      subst m2
      refine (hj a oe e C pn m1 (fun z => ?_) hv).run pins s σ H D I q
      rw [z] at m3
      rw [show d = none from m3] at hz
      exact hz
    · unfold handleS at q
      cases hs : sup e.nm x with
      | none => rw [hs] at q; exact q.elim
      | some b =>
        rw [hs] at q
        obtain ⟨C, c2, v, q1, q2, q3, q4, q6, q7, q8⟩ := so _ _ _ hs
        have ec : c2 = c := by
          rcases q2 with z | ⟨z, _⟩
          · rw [hm] at z; exact (Option.some.inj z).symm
          · rw [hm] at z; cases z
        obtain ⟨C', m1, m2, m3⟩ := id ex
        rw [q1] at m1
        have eC : C = C' := by cases m1; rfl
        refine ⟨b, by rw [m2, ← eC, ← ec]; exact q8, fun hb a na => ?_, fun hb => ?_⟩
        · subst hb
          obtain ⟨S2, sub⟩ := SR.setExc (i := i) (a := a) (e := e) p.sr ne
          refine ⟨e, ex, g, env'.set i (.raw (.exc e)), c', S2, ?_⟩
          cases eh : h (env'.set i (.raw (.exc e))) c' with
          | rt d2 c2 =>
            simp only [eh] at q
            exact fun x H3 rp => q x H3 (p.ret ⟨fun b o e1 e2 e3 e4 => rp.keep b o e1 e2 e3 fun z => e4 (sub b z), rp.there, rp.cst, rp.tabs, rp.res⟩)
          | nx e c => simp only [eh] at q; exact q.elim
          | bk e c => simp only [eh] at q; exact q.elim
          | ct e c => simp only [eh] at q; exact q.elim
          | exn x e c => simp only [eh] at q; exact q.elim
          | stk => simp only [eh] at q; exact q.elim
        · subst hb
          exact h2 p ne ex q
theorem rs_try {sup : Sup} {body : List Stmt} {hd : ExceptHandler} {hds : List ExceptHandler} {l : List (Str × Nat × SS)} {fb : SS} {pos : Pos} (j : JX X W) (hs : X.stack = X.env :: X.outer) (hf : X.env.frame = some X.env.locals) (so : SupOk X sup)
    (hb : ∀ (W' : WX) (pn : List (Addr × Obj)) (xe : Value → Shared → Prop), JX (X.tr pn xe) W' → RSs (X.tr pn xe) T W' fr body fb) (hh : HdsG X T fr (hd :: hds) l) : RS X T W fr (.Try body (hd :: hds) [] [] pos) (sTry sup fb l) := by
  obtain ⟨l', h1, h2⟩ := hdsN_of (W := W) so hh
  refine ps_imp (ps_try_named (tb := fun W' => TSD (gx X T) W' fr fb) hs hf j.nd j.tk (fun W' pn xe tk po => hb W' pn xe (j.tr tk po)) h1) fun D σ H ⟨g, env, cv, S, r⟩ => ⟨g, env, cv, S, ?_⟩
  unfold sTry at r
  cases q : fb env cv with
  | exn e env' c' =>
    rw [q] at r
    intro cls dd σ' H' p ex
    have r : SOut (gx X T) W fr g σ H env D (if noExc env' = true then handleS sup e env' c' l else .stk) := r
    by_cases ne : noExc env' = true
    · rw [if_pos ne] at r
      exact h2 p ne ex r
    · rw [if_neg ne] at r
      exact r.elim
  | nx e c => rw [q] at r; exact r
  | bk e c => rw [q] at r; exact r
  | ct e c => rw [q] at r; exact r
  | rt e c => rw [q] at r; exact r
  | stk => rw [q] at r; exact r
/-! isinstance(error, c) -/
def eIsE (sup : Sup) (i : Nat) (n : Str) : SE := fun env c => match env[i]? with
  | some (.raw (.exc e)) => if e.fs.isEmpty then match sup e.nm n with
    | some b => .ok (.bl b) c
    | none => .stk
    else .stk
  | _ => .stk
theorem re_isE {sup : Sup} {a : Addr} {oe : Obj} {e : Exn} {C : Addr} {pn : List (Addr × Obj)} {W' : WX} {n x : Str} {p p2 p3 pos : Pos} (so : SupOk X sup) (i : Nat) (h1 : X.mg e.nm = some (.ref C)) (h2 : e.fs = [] → L2N.Zn (.ref C) none oe) (h3 : ∃ vs, oe.data = .fields vs) (hm : X.mg "isinstance" = none)
    (hN : X.N[i]? = some x := by rfl) (hg : Gl X "isinstance" := by rfl) (hgn : Gl X n := by rfl) (hv : Vis X.env.scope x := by first | exact Or.inl rfl | exact Or.inr (Or.inl rfl) | exact Or.inr (Or.inr rfl)) (hd : (x == ("__debug__" : Str)) = false := by decide)
    (hcd : (x == ("__classdict__" : Str)) = false := by decide) (hdn : (n == ("__debug__" : Str)) = false := by decide)
    (he : starEach [.Name x p2, .Name n p3] X.env = (false, eval (.Name x p2) X.env) :: starEach [.Name n p3] X.env := by rfl) (he2 : starEach [.Name n p3] X.env = (false, eval (.Name n p3) X.env) :: starEach [] X.env := by rfl) (hpl : (backTo pos (starEach [.Name n p3] X.env)).any (·.1) = false := by rfl) :
    RE (X.suite a ((a, oe) :: pn)) (T.exc a e) W' (.Call (.Name "isinstance" p) [.Name x p2, .Name n p3] [] pos) (eIsE sup i n) := by
  by_cases hs : ∃ b, sup e.nm n = some b
  · obtain ⟨b, hs⟩ := hs
    obtain ⟨C', c2, v, q1, q2, q3, q4, q6, q7, q8⟩ := so _ _ _ hs
    rw [h1] at q1
    have eC : C = C' := by cases q1; rfl
    subst eC
    by_cases hfs : e.fs = []
    · have zn := h2 hfs
      have pn2 : PE (X.suite a ((a, oe) :: pn)) (.Name n p3) (tC v) := by
        rcases q2 with m | ⟨m1, m2, m3⟩
        · exact pe_glob hgn m q3 hdn
        · exact pe_bltn hgn m1 m2 q3 m3 hdn
      refine pe_imp (pe_callB (call_isE q6 ⟨zn.1, zn.2.1⟩ h3) hg hm (by decide +kernel) (pa_cons (pe_var (i := i) hN hv hd hcd) (pa_cons pn2 pa_nil he2) he) (by decide) (by decide) he hpl) fun σ H Q ⟨g, env, cv, S, r⟩ => ?_
      unfold eIsE at r
      split at r
      · rename_i e' hi
        obtain ⟨a', r1, r2⟩ := S.raw i _ hi
        have r1 : some (a, e) = some (a', e') := r1
        cases r1
        rw [hfs, hs] at r
        exact ⟨_, r2, v, c2, b, rfl, q4, q7, r H (Po.refl S) _ (.bl b)⟩
      · exact r.elim
    · refine ⟨fun pins s σ H Q I q => ?_⟩
      exfalso
      obtain ⟨g, env, cv, S, r⟩ := q
      unfold eIsE at r
      split at r
      · rename_i e' hi
        obtain ⟨a', r1, r2⟩ := S.raw i _ hi
        have r1 : some (a, e) = some (a', e') := r1
        cases r1
        cases hf : e.fs with
        | nil => exact hfs hf
        | cons x y => rw [hf] at r; exact r
      · exact r.elim
  · refine ⟨fun pins s σ H Q I q => ?_⟩
    exfalso
    obtain ⟨g, env, cv, S, r⟩ := q
    unfold eIsE at r
    split at r
    · rename_i e' hi
      obtain ⟨a', r1, r2⟩ := S.raw i _ hi
      have r1 : some (a, e) = some (a', e') := r1
      cases r1
      cases hq : sup e.nm n with
      | some b => exact hs ⟨b, hq⟩
      | none =>
        rw [hq] at r
        split at r
        · exact r
        · exact r
    · exact r.elim
end
end G

set_option Elab.async false
set_option linter.all false
set_option maxRecDepth 100000
set_option maxHeartbeats 2000000
namespace G
set_option autoImplicit false
open PySem PySem.Spec PyProof.Rows L2

/-! ### a lambda is made; nothing vanishes -/
section
variable {X : Cx} {pins : List (Addr × Obj)} {σ : St} {H : Hp} {s : Shared}
def Stay (H H' : Hp) : Prop := LamX.ExtN H H' ∧ ∀ b o, H b = some o → ∃ o', H' b = some o'
abbrev lamQ (X : Cx) : Str := X.env.qual ++ "<lambda>"
abbrev lamO (X : Cx) (params : Arguments) (body : Expr) (scope : Scope) (pm : Value) (c' : Addr) (ctv : Value) : Obj := PySem.W.kla_obj "<lambda>" (lamQ X) params body scope (cloFrom X.env.cells scope.names []) pm c' ctv
theorem lam_new {T : List (Addr × Str)} {c P : Addr} {params : Arguments} {body : Expr} {scope : Scope} {pos : Pos} {E Q : Value → Shared → Prop} (I : Inv X pins σ H s) (TB : LamX.TabB X.base X.mg c P) (hcode : X.env.code = .ref c)
    (hm : (P, lamQ X) ∈ T) (hu : ∀ p ∈ T, p.1 = P → p.2 = lamQ X) (hT : LamX.Tabs T H) (hdef : defaultsOf params X.env = ([], [])) (hfree : ∀ y ∈ scope.names, y.2 = .free → ∃ c, X.env.cells.lookup y.1 = some c)
    (h : ∀ (f c' : Addr) (pm ctv : Value) (H1 : Hp) (s' : Shared), Inv X pins σ H1 s' → Stay H H1 → LamX.Tabs T H1 → s'.heap.get? f = some (lamO X params body scope pm c' ctv) → H1 f = none → f ∉ frs X.stack → H1 c' = some (LamX.CodeO c' (lamQ X)) → Q (.ref f) s') :
    wpAny (model X.prog X.w) X.A (eval (.Lambda params body scope pos) X.env) Q E s := by
  obtain ⟨ps, atP, tri, among⟩ := hT _ hm
  have bP := TB.bm.keeps I.bk
  have gP : s.heap.get? P = some { cls := .none, data := .fields ps } := I.hok P _ atP
  have young : ∀ f, s.heap.objs.size ≤ f → f ∉ frs X.stack := by
    intro f hf z
    rcases List.mem_cons.mp (I.stkSub _ z) with e | e
    · have lt := I.lt
      rw [← e] at lt
      exact Nat.lt_irrefl _ (Nat.lt_of_lt_of_le lt hf)
    · exact I.nofs hf e
  refine PySem.W.kla_eval hdef ?_
  cases found : codeAmong pos ps.toList with
  | some cv =>
    obtain ⟨c', ec, co⟩ := among pos cv found
    subst ec
    refine PySem.W.kla_makeFunctionHit (mg := X.mg) (c := c) (P := P) (ps := ps) (closure_ok hfree) I.ok.glob (I.mod.glob.keeps I.bk) hcode (TB.code.keeps I.bk) gP tri found bP fun ctv h' tk keep size => ?_
    have big : H h'.objs.size = none := I.hok.fresh size
    have J : Inv X pins σ H { s with heap := h'.push (lamO X params body scope ((X.mg "__name__").getD .none) c' ctv), toks := tk } := I.kept fun b o e => Heap.get?_push_of_some _ (keep b o e)
    exact h h'.objs.size c' _ ctv H _ J ⟨LamX.ExtN.refl H, fun b o e => ⟨o, e⟩⟩ hT (Heap.get?_push_size _ rfl) big (young _ size) co
  | none =>
    refine PySem.W.kla_makeFunction (mg := X.mg) (c := c) (P := P) (ps := ps) (closure_ok hfree) I.ok.glob (I.mod.glob.keeps I.bk) hcode (TB.code.keeps I.bk) gP tri found TB.gP bP fun c' ctv h' tk but ge lt recd tab => ?_
    obtain ⟨c2, oc, vs, t, e2, hoc, hdat, hnm⟩ := recd
    cases e2
    have newC : H c' = none := I.hok.fresh ge
    have apart : P ≠ c' := ne_of_none atP newC
    let H1 : Hp := upd (upd H P (.tbl (ps ++ #[rawInt pos.line, rawInt pos.col, .ref c']))) c' (LamX.CodeO c' (lamQ X))
    have J : Inv X pins σ H1 { s with heap := h'.push (lamO X params body scope ((X.mg "__name__").getD .none) c' ctv), toks := tk } :=
      LamX.inv_table (more := #[rawInt pos.line, rawInt pos.col, .ref c']) I atP (fun b o hb e => Heap.get?_push_of_some _ (but b o hb e)) (Heap.get?_push_of_some _ tab) ge ⟨oc, vs, t, Heap.get?_push_of_some _ hoc, hdat, hnm⟩
    have atP1 : H1 P = some (.tbl (ps ++ #[rawInt pos.line, rawInt pos.col, .ref c'])) := by
      show upd (upd H P _) c' _ P = _
      rw [upd_ne apart, upd_same]
    have else1 : ∀ b o, H b = some o → b ≠ P → H1 b = some o := by
      intro b o e n
      show upd (upd H P _) c' _ b = _
      rw [upd_ne (ne_of_none e newC), upd_ne n]; exact e
    have ext : LamX.ExtN H H1 := by
      intro b o e n
      exact else1 b o e fun z => n ps (Option.some.inj (e.symm.trans (by rw [z]; exact atP)))
    have stay : ∀ b o, H b = some o → ∃ o', H1 b = some o' := by
      intro b o e
      by_cases z : b = P
      · exact ⟨_, by rw [z]; exact atP1⟩
      · exact ⟨o, else1 b o e z⟩
    have tabs1 : LamX.Tabs T H1 := by
      intro p hp
      have eL : (ps ++ #[rawInt pos.line, rawInt pos.col, .ref c']).toList = ps.toList ++ [rawInt pos.line, rawInt pos.col, .ref c'] := by simp
      by_cases z : p.1 = P
      · rw [hu p hp z, z]
        refine ⟨_, atP1, by rw [eL]; exact PySem.TriplesOk_snoc _ _ _ _ tri, fun q cv hc => ?_⟩
        rw [eL] at hc
        rcases LamX.among_app _ tri hc with w | w
        · obtain ⟨c0, e1, e2⟩ := among q cv w
          exact ⟨c0, e1, ext _ _ e2 LamX.codeO_ne⟩
        · exact ⟨c', w, upd_same⟩
      · obtain ⟨qs, m1, m2, m3⟩ := hT p hp
        refine ⟨qs, else1 _ _ m1 z, m2, fun q cv hc => ?_⟩
        obtain ⟨c0, e1, e2⟩ := m3 q cv hc
        exact ⟨c0, e1, ext _ _ e2 LamX.codeO_ne⟩
    have size : s.heap.objs.size ≤ h'.objs.size := by omega
    refine h h'.objs.size c' _ ctv H1 _ J ⟨ext, stay⟩ tabs1 (Heap.get?_push_size _ rfl) ?_ (young _ size) upd_same
    have n1 : h'.objs.size ≠ c' := by omega
    have n2 : h'.objs.size ≠ P := Nat.ne_of_gt (Nat.lt_of_lt_of_le (Heap.lt_size gP) size)
    show upd (upd H P _) c' _ _ = _
    rw [upd_ne n1, upd_ne n2]
    exact I.hok.fresh size
end

/-! ### the lambda called, in the def that got it -/
/-- the context of the lambda's body -/
def lamX (X : Cx) (A : Around) (outer : List Env) (s : Shared) (H : Hp) (E : XK) (scope : Scope) (f c' : Addr) : Cx :=
  (LamX.lamCx X A outer s H E scope f c').tr [] fun e s' => wpAny (model X.prog X.w) (A.deeper (LamX.lamEnv X scope s.heap.objs.size f c')) (leaving (LamX.lamEnv X scope s.heap.objs.size f c') e) (fun _ s'' => L2N.CX X.prog X.w outer H s E e s'') (fun e' s'' => L2N.CX X.prog X.w outer H s E e' s'') s'
/-- the context of that def -/
abbrev defX (X : Cx) (N : List Str) (q : Str) (sc : Scope) (f : Addr) (cd : Value) (s : Shared) (H : Hp) (E : XK) : Cx := cxOf (L2N.CX X.prog X.w) X.prog X.w X.K X.mg X.base N q sc f cd X.A X.stack s H E
theorem act_pe {X : Cx} {pins : List (Addr × Obj)} {σ : St} {H : Hp} {s : Shared} {N : List Str} {q a : Str} {sc scope : Scope} {g f c' : Addr} {cd pm ctv : Value} {params : Arguments} {body : Expr} {k i : Nat} {Eg : XK} {pn : List (Addr × Obj)} {xe : Value → Shared → Prop} {W : WX} {tb : XK → TE} {p1 p2 : Pos}
    (I : Inv X pins σ H s) (L : LamX.LamS X.env.scope scope) (hf : s.heap.get? f = some (lamO X params body scope pm c' ctv)) (hfn : H f = none) (hfr : f ∉ frs X.stack)
    (hbind : bindArgs (PySem.W.kla_fn "<lambda>" (lamQ X) params body scope (cloFrom X.env.cells scope.names []) pm (.ref c') ctv) ⟨[], []⟩ = pure []) (tk : L2N.Takes ((defX X N q sc g cd s H Eg).tr pn xe) W) (hr : Room (k + 1) (X.A.deeper (envOfC q sc s.heap.objs.size g cd)))
    (hbody : ∀ (A : Around) (outer : List Env) (s : Shared) (H : Hp) (E : XK), Room k (A.deeper (LamX.lamEnv X scope s.heap.objs.size f c')) → PE (lamX X A outer s H E scope f c') body (tb E))
    (hN : N[i]? = some a) (hv : Vis sc a) (hd : (a == ("__debug__" : Str)) = false) (hcd : (a == ("__classdict__" : Str)) = false) :
    PE ((defX X N q sc g cd s H Eg).tr pn xe) (.Call (.Name a p1) [] [] p2) fun σZ HZ Q => σZ[i]? = some (some (.ref f)) ∧ HZ c' = some (LamX.CodeO c' (lamQ X)) ∧ tb (WE W σZ) σ HZ Q := by
  constructor
  intro pinsZ sZ σZ HZ Q IZ ⟨h1, h2, h3⟩
  refine wpAny_Call_Name_kw (thn ((pe_var (pos := p1) (i := i) hN hv hd hcd).run pinsZ sZ σZ HZ (fun v H1 => v = .ref f ∧ H1 = HZ) IZ ⟨.ref f, h1, rfl, rfl⟩) fun u s1 ⟨v, H1, I1, r1, ev, eH⟩ => ?_)
  subst ev
  rw [eH] at I1
  have eu : u = Value.ref f := r1
  subst eu
  have still : s1.heap.get? f = some (lamO X params body scope pm c' ctv) := I1.base.keep f _ hf hfn hfr fun z => nomatch (show f ∈ ([] : List Addr) from z)
  refine PySem.W.callWith_F0 ⟨_, _, _, _, still⟩ (wpAny_call (codeAny_mono (R := CR (L2N.CX X.prog X.w) (envOfC q sc s.heap.objs.size g cd :: X.stack) X.prog X.w HZ s1 Q (WE W σZ)) ?_ fun r s' out => ?_))
  · show codeAny _ _ (.call (.ref f) ⟨[], []⟩) _ _
    obtain ⟨⟨oc, vs, t, m1, m2, m3⟩, _, _⟩ := I1.hok c' _ h2
    refine PySem.W.kla_callFunE hr.depth still rfl L.co L.gen rfl ⟨c', oc, vs, t, rfl, m1, m2, m3⟩ ?_
    rw [hbind]
    refine wpAny_pure (wpAny_newFunctionEnv (fun y hy => (L.own y hy).2) (fun y hy => absurd hy (by simp)) (fun h₁ hns hsb => ⟨I1.nolimit.fresh _ hsb, ?_⟩) L.kind)
    have kp : ∀ b o, s1.heap.get? b = some o → h₁.get? b = some o := by
      intro b o e
      exact hsb.extBut b o (Nat.ne_of_lt (Heap.lt_size e)) (Heap.get?_push_of_some _ e)
    have J := (LamX.lam_start2 (E := WE W σZ) (A := X.A.deeper (envOfC q sc s.heap.objs.size g cd)) (outer := envOfC q sc s.heap.objs.size g cd :: X.stack) (tk := s1.toks + ([] : List (Str × Value)).length) (f := f) (c' := c') I L I1.env0 hr.hd I1.base hns kp).toTry fun e s' =>
      wpAny (model X.prog X.w) ((X.A.deeper (envOfC q sc s.heap.objs.size g cd)).deeper (LamX.lamEnv X scope s1.heap.objs.size f c')) (leaving (LamX.lamEnv X scope s1.heap.objs.size f c') e) (fun _ s'' => L2N.CX X.prog X.w (envOfC q sc s.heap.objs.size g cd :: X.stack) HZ s1 (WE W σZ) e s'')
        (fun e' s'' => L2N.CX X.prog X.w (envOfC q sc s.heap.objs.size g cd :: X.stack) HZ s1 (WE W σZ) e' s'') s'
    refine PySem.W.kla_codeExpr (wpAny_mono ((hbody _ _ s1 HZ (WE W σZ) (hr.deeper _)).run [] _ σ HZ Q J h3) (fun v s' ⟨w', H', J', rv, qq⟩ => ?_) fun e s' out => out)
    exact ⟨w', H', J'.os, J'.bare, J'.base, J'.hok, rv, qq⟩
  · cases r with
    | error e => exact L2N.passAt tk σZ pinsZ HZ s1 e s' I1 out
    | ok fl =>
      cases fl with
      | ret u => exact I1.after out
      | next => exact out.elim
      | brk => exact out.elim
      | cont => exact out.elim
end G

set_option Elab.async false
set_option linter.all false
set_option maxRecDepth 100000
set_option maxHeartbeats 2000000
namespace G
set_option autoImplicit false
open PySem PySem.Spec PyProof.Rows L2

/-! ### g(lambda: body) -/
def eLam (i : Nat) (B : Cv → Re Va) : SE := fun env c => match env[i]? with
  | some (.raw .lam) => B c
  | _ => .stk
def envL (n : Nat) : Ev := .raw .lam :: List.replicate (n - 1) .un
def runL (n : Nat) (body : SS) (c : Cv) : Re Va := match body (envL n) c with
  | .nx _ c => .ok .non c
  | .rt d c => .ok d c
  | .exn e _ c => .exn e c
  | _ => .stk
def lamE (n : Nat) (bg : (Cv → Re Va) → SS) (fb : SE) : SE := fun env c => runL n (bg fun c' => fb env c') c
theorem envL_get {n i : Nat} {s : Sl} (h : (envL n)[i]? = some s) : (i = 0 ∧ s = .raw .lam) ∨ s = .un := by
  cases i with
  | zero => left; refine ⟨rfl, ?_⟩; simp [envL] at h; exact h.symm
  | succ i =>
    right
    have h2 : (List.replicate (n - 1) Sl.un)[i]? = some s := by simpa [envL] using h
    exact List.eq_of_mem_replicate (List.mem_of_getElem? h2)
theorem jx_lam {X : Cx} {W : WX} (j : JX X W) {A : Around} {outer : List Env} {s : Shared} {H : Hp} {E : XK} {scope : Scope} {f c' : Addr} {k : Nat} (hr : Room k (A.deeper (LamX.lamEnv X scope s.heap.objs.size f c'))) : JX (lamX X A outer s H E scope f c') (fun cls d _ H => E cls d H) where
  tk := L2N.takes_of rfl rfl rfl rfl
  nd := j.nd
  hu := by have := hr.un; show (A.deeper (LamX.lamEnv X scope s.heap.objs.size f c')).units + 66 < cLine; omega
  po := by
    show PassesOwn (model X.prog X.w) (A.deeper (LamX.lamEnv X scope s.heap.objs.size f c')) (LamX.lamEnv X scope s.heap.objs.size f c') _
    passes_own
section
variable {X : Cx} {T : Gt} {W : WX}
theorem act_re {σ : St} {H1 : Hp} {s : Shared} {N : List Str} {q a : Str} {sc : Scope} {g f c' : Addr} {cd : Value} {i : Nat} {Eg : XK} {pn : List (Addr × Obj)} {xe : Value → Shared → Prop} {W' : WX} {p1 p2 : Pos} {fb : SE} {g0 : Gh} {env : Ev} {cv : Cv} (S1 : SR (gx X T) g0 σ H1 env cv)
    (hco : H1 c' = some (LamX.CodeO c' (lamQ X)))
    (hp : PE ((defX X N q sc g cd s H1 Eg).tr pn xe) (.Call (.Name a p1) [] [] p2) fun σZ HZ Q => σZ[i]? = some (some (.ref f)) ∧ HZ c' = some (LamX.CodeO c' (lamQ X)) ∧ TD (gx X T) (fun cls d _ H => WE W' σZ cls d H) fb σ HZ Q) :
    RE ((defX X N q sc g cd s H1 Eg).tr pn xe) ⟨T.tb, some f, none, some (g0.call σ env H1)⟩ W' (.Call (.Name a p1) [] [] p2) (eLam i fun c => fb env c) := by
  refine pe_imp hp fun σZ HZ Q ⟨gZ, envZ, c, SZ, rZ⟩ => ?_
  unfold eLam at rZ
  split at rZ
  · rename_i hi
    obtain ⟨a', e1, e2⟩ := SZ.raw i _ hi
    have e1 : some f = some a' := e1
    cases e1
    have lb := SZ.lb _ rfl
    have hc : gZ.c = g0.c := lb.c
    have h0 : gZ.H0 = H1 := lb.H0
    have keep : ∀ b o, H1 b = some o → (∀ ps, o ≠ .tbl ps) → g0.c ≠ some b → HZ b = some o := fun b o e t n => SZ.ent b o (by rw [h0]; exact e) t (by rw [hc]; exact n)
    have nc : g0.c ≠ some c' := fun z => by
      have h := S1.cst
      rw [z] at h
      cases cv with
      | none => exact h
      | some xy =>
        have h : H1 c' = some (.lst [.int xy.1, .int xy.2]) := h
        rw [hco] at h
        unfold LamX.CodeO at h
        cases h
    refine ⟨e2, keep c' _ hco LamX.codeO_ne nc, ?_⟩
    have po2 : Po (gx X T) g0 H1 HZ c := ⟨keep, fun b o e => SZ.there b o (by rw [h0]; exact e), by rw [← hc]; exact SZ.cst, SZ.tabs⟩
    have ex : ∀ b, gZ.M b ∨ Ow σZ envZ b → ∃ o, HZ b = some o := fun b z => SZ.mtH b z
    have SL : SR (gx X T) (g0.add fun b => (gZ.M b ∧ ¬ Mt g0 σ env b) ∨ Ow σZ envZ b) σ HZ env c := S1.afterM po2 (fun b z => by
      rcases z with ⟨z, n⟩ | ⟨i, d, z1, z2⟩
      · exact (lb.sup b z).elim (fun w => absurd w n) id
      · obtain ⟨a2, w1, _, w2, _⟩ := SZ.own i d z1
        rw [z2] at w1
        cases w1
        rw [h0] at w2; exact w2) fun b z => ex b (z.imp (·.1) id)
    have conv : ∀ {H' c2}, Po (gx X T) (g0.add fun b => (gZ.M b ∧ ¬ Mt g0 σ env b) ∨ Ow σZ envZ b) HZ H' c2 → Po (gx ((defX X N q sc g cd s H1 Eg).tr pn xe) ⟨T.tb, some f, none, some (g0.call σ env H1)⟩) gZ HZ H' c2 := fun p =>
      ⟨fun b o e t n => p.keep b o e t (by show g0.c ≠ some b; rw [← hc]; exact n), p.there, by rw [hc]; exact p.cst, p.tabs⟩
    refine ⟨_, env, c, SL, ?_⟩
    cases q : fb env c with
    | stk => simp only [q] at rZ; exact rZ.elim
    | exn e c2 =>
      simp only [q] at rZ
      exact fun cls dd H' p x => rZ cls dd H' (conv p) x
    | ok d c2 =>
      simp only [q] at rZ
      intro H' p x rx
      refine rZ H' (conv p) x ?_
      have rx2 := rx.mono (H' := hid H' (Mt gZ σZ envZ)) (le_hid (fun b o _ e _ => e) fun b z => .inl (by
        rcases z with z | z
        · by_cases w : Mt g0 σ env b
          · exact w.imp .inl id
          · exact .inl (.inr (.inl ⟨z, w⟩))
        · exact .inl (.inr (.inr z))))
      show Rep X.K X.mg gZ.c _ x d
      rw [hc]
      exact rx2
  · exact rZ.elim
/-- a def that calls what it got -/
structure LamFn (P : Program) (w : World) (K : PySem.W.Frag) (mg : Str → Option Value) (base : Heap) (k : Nat) (x a : Str) (g : Addr) (fd : FuncData) (st : Stmt) (N : List Str) (bg : (Cv → Re Va) → SS) : Prop where
  F : Fun K x x st g fd
  S : FnScope N [a] (defScope st)
  n0 : N[0]? = some a
  va : Vis (defScope st) a
  mgf : mg x = some (.ref g)
  bi : Binds K fd [a] []
  d1 : (x == ("__debug__" : Str)) = false
  d2 : (a == ("__debug__" : Str)) = false
  d3 : (a == ("__classdict__" : Str)) = false
  body : ∀ (cdv : Value) (A : Around) (outer : List Env) (s : Shared) (H : Hp) (E : XK) (B : Cv → Re Va) (T : Gt), Room k (A.deeper (envOfC x (defScope st) s.heap.objs.size g cdv)) →
    JX (cxOf (L2N.CX P w) P w K mg base N x (defScope st) g cdv A outer s H E) (fun cls d _ H => E cls d H) →
    (∀ (W : WX) (pn : List (Addr × Obj)) (xe : Value → Shared → Prop) (p1 p2 : Pos), JX ((cxOf (L2N.CX P w) P w K mg base N x (defScope st) g cdv A outer s H E).tr pn xe) W → RE ((cxOf (L2N.CX P w) P w K mg base N x (defScope st) g cdv A outer s H E).tr pn xe) T W (.Call (.Name a p1) [] [] p2) (eLam 0 B)) →
    RSs (cxOf (L2N.CX P w) P w K mg base N x (defScope st) g cdv A outer s H E) T (fun cls d _ H => E cls d H) false (defBody st) (bg B)
theorem re_lam (j : JX X W) {x a : Str} {g : Addr} {fd : FuncData} {st : Stmt} {N : List Str} {k : Nat} {bg : (Cv → Re Va) → SS} {c P : Addr} {params : Arguments} {body : Expr} {scope : Scope} {fb : SE} {p lpos pos : Pos} (GL : LamFn X.prog X.w X.K X.mg X.base (k + 1) x a g fd st N bg) (hr : Room (k + 2) X.A) (TB : LamX.TabB X.base X.mg c P)
    (hmT : (P, lamQ X) ∈ T.tb) (hu : ∀ p ∈ T.tb, p.1 = P → p.2 = lamQ X) (hbody : ∀ (A : Around) (outer : List Env) (s : Shared) (H : Hp) (E : XK) (f c' : Addr), Room k (A.deeper (LamX.lamEnv X scope s.heap.objs.size f c')) → JX (lamX X A outer s H E scope f c') (fun cls d _ H => E cls d H) →
      RE (lamX X A outer s H E scope f c') T (fun cls d _ H => E cls d H) body fb) (hg : Gl X x := by rfl) (hcode : X.env.code = .ref c := by rfl) (L : LamX.lamSB X.env.scope scope = true := by rfl) (hdef : defaultsOf params X.env = ([], []) := by rfl)
    (hbind : ∀ (q : Str) (cl : List (Str × Addr)) (pm cv ctv : Value), bindArgs (PySem.W.kla_fn "<lambda>" q params body scope cl pm cv ctv) ⟨[], []⟩ = pure [] := by intros; rfl) : RE X T W (.Call (.Name x p) [.Lambda params body scope lpos] [] pos) (lamE N.length bg fb) := by
  constructor
  intro pins s σ H Q I ⟨g0, env, cv, S, r⟩
  have LS := LamX.lamS_by L
  obtain ⟨oc, od, kV, doc, pm, an, cdv, ct, osl, efd, lk, hcd⟩ := GL.F.ex
  refine wpAny_Call_Name_kw (ld_glob I hg GL.mgf ?_ GL.d1)
  refine PySem.W.callWith_K (h₀ := X.base) I.ok.mod.kin GL.F.kp ?_ (by rfl) (by rfl)
  show wpAny _ _ (spliced ((false, eval (.Lambda params body scope lpos) X.env) :: backTo pos (starEach [] X.env))) _ _ s
  refine Calls.spliced_cons (lam_new I TB hcode hmT hu S.tabs hdef (LS.has I.ok) fun f c' pm' ctv H1 s' I1 stay T1 hf hfn hfr hco => ?_)
  refine Calls.spliced_nil ⟨I1.kIn, ?_⟩
  have po : Po (gx X T) g0 H H1 cv := ⟨fun b o e t _ => stay.1 b o e t, stay.2, by
    have h := S.cst
    obtain ⟨c, M, H0⟩ := g0
    cases c with
    | none => cases cv <;> exact h
    | some b =>
      cases cv with
      | none => exact h
      | some xy => exact stay.1 _ _ h (fun ps z => nomatch z), T1⟩
  have S1 := S.after po
  have noOw : ∀ b, ¬ Ow (L2.start N [.ref f]) (envL N.length) b := fun b ⟨i, d, h1, _⟩ => by
    rcases envL_get h1 with ⟨_, z⟩ | z <;> cases z
  have hN : 0 < N.length := (List.getElem?_eq_some_iff.mp GL.n0).1
  have rc : codeAny (model X.prog X.w) X.A (.call (.ref g) ⟨[.ref f], []⟩) (CR (L2N.CX X.prog X.w) X.stack X.prog X.w H1 s' Q (WE W σ)) s' := by
    have bi := GL.bi
    subst efd
    refine LamX.run_ofS (N := N) (ps := [a]) (us := [.ref f]) (vs := [.ref f]) lk hcd GL.S hr I1.env0 (bi s' [.ref f] I1.kIn rfl) (.cons rfl .nil) rfl fun hr' => ⟨_, GL.body cdv X.A X.stack s' H1 (WE W σ) (fun c => fb env c) ⟨T.tb, some f, none, some (g0.call σ env H1)⟩ hr' (jx_of GL.S hr') (fun W' pn xe p1 p2 jt => ?_), ?_⟩
    · exact act_re S1 hco (act_pe (i := 0) (tb := fun E => TD (gx X T) (fun cls d _ H => E cls d H) fb) I1 LS hf hfn hfr (hbind _ _ _ _ _) jt.tk hr' (fun A outer s H E hr2 => hbody A outer s H E f c' hr2 (jx_lam j hr2)) GL.n0 GL.va GL.d2 GL.d3)
    · refine ⟨g0.call σ env H1, envL N.length, cv, ⟨?_, fun i d h => ?_, fun i d h => ?_, fun i d h => ?_, fun i d h => ?_, fun i j d e b h => ?_, S1.cst, fun b z => .inl (S1.cM b z), S1.mtH, fun b o e _ _ => e, fun b o e => ⟨o, e⟩, S1.tabs, fun g1 e => ?_⟩, ?_⟩
      · unfold L2.start envL
        simp
      · rcases envL_get h with ⟨_, z⟩ | z <;> cases z
      · rcases envL_get h with ⟨_, z⟩ | z <;> cases z
      · rcases envL_get h with ⟨_, z⟩ | z <;> cases z
      · rcases envL_get h with ⟨z1, z⟩ | z
        · cases z
          subst z1
          exact ⟨f, rfl, rfl⟩
        · cases z
      · rcases envL_get h with ⟨_, z⟩ | z <;> cases z
      · have e : some (g0.call σ env H1) = some g1 := e
        cases e
        refine ⟨rfl, rfl, fun b z => ⟨z, fun w => ?_⟩, fun b z => .inl z⟩
        obtain ⟨o, eo⟩ := S1.mtH b z
        have w : H1 b = none := w
        rw [w] at eo; cases eo
      · have r : ROut (gx X T) W g0 σ H (PV (gx X T) g0 σ env Q) (runL N.length (bg fun c' => fb env c') cv) := r
        unfold runL at r
        cases q : bg (fun c' => fb env c') (envL N.length) cv with
        | nx e c =>
          simp only [q] at r
          intro σ' H' p
          exact r H' (po.trans ⟨fun b o e1 e2 e3 => p.keep b o e1 e2 e3 (noOw b), p.there, p.sr.cst, p.sr.tabs⟩) _ .non
        | rt d c =>
          simp only [q] at r
          intro y H' p
          exact r H' (po.trans ⟨fun b o e1 e2 e3 => p.keep b o e1 e2 e3 (noOw b), p.there, p.cst, p.tabs⟩) y p.res
        | exn e en c =>
          simp only [q] at r
          intro cls dd σ' H' p ex
          exact r cls dd H' (po.trans ⟨fun b o e1 e2 e3 => p.keep b o e1 e2 e3 (noOw b), p.there, p.sr.cst, p.sr.tabs⟩) ex
        | bk e c => simp only [q] at r; exact r.elim
        | ct e c => simp only [q] at r; exact r.elim
        | stk => simp only [q] at r; exact r.elim
  refine wpAny_call (codeAny_mono rc fun r s2 hq => ?_)
  cases r with
  | error e => exact L2N.passAt j.tk σ pins H1 s' e s2 I1 hq
  | ok fl =>
    cases fl with
    | ret u => exact I1.after hq
    | next => exact hq.elim
    | brk => exact hq.elim
    | cont => exact hq.elim
end
end G

set_option Elab.async false
set_option linter.all false
set_option maxRecDepth 100000
set_option maxHeartbeats 2000000
namespace G
set_option autoImplicit false
open PySem PySem.Spec PyProof.Rows L2

/-! ### max(a, b), min(a, b) -/
def vMax2 : Va → Va → Cv → Re Va
  | .int i, .int j, c => .ok (.int (if j > i then j else i)) c
  | _, _, _ => .stk
def vMin2 : Va → Va → Cv → Re Va
  | .int i, .int j, c => .ok (.int (if j < i then j else i)) c
  | _, _, _ => .stk
section
variable {X : Cx} {T : Gt} {W : WX} {e a b : Expr} {f h : SE} {p pos : Pos}
theorem ov_max2 : OpV X T W (fun x y H Q => (fun xs H Q => ∃ i j, xs = [V.int i, V.int j] ∧ Q (.int (if j > i then j else i)) H) [x, y] H Q) vMax2 := by
  intro g σ H env cv x y a b Q S rx ry r
  unfold vMax2 at r
  split at r
  · cases rx; cases ry; exact ⟨_, _, rfl, r H (Po.refl S) _ (.int _)⟩
  · exact r.elim
theorem ov_min2 : OpV X T W (fun x y H Q => (fun xs H Q => ∃ i j, xs = [V.int i, V.int j] ∧ Q (.int (if j < i then j else i)) H) [x, y] H Q) vMin2 := by
  intro g σ H env cv x y a b Q S rx ry r
  unfold vMin2 at r
  split at r
  · cases rx; cases ry; exact ⟨_, _, rfl, r H (Po.refl S) _ (.int _)⟩
  · exact r.elim
end

/-! ### tuple * k for k = 1 and k <= 0 -/
theorem tup_mul1 (l : Addr) (items : Array Value) (n : Nat) (dd : Option Addr) (sl : Array (Option Value)) (u : Tok) :
    Meets (Builtin.«tuple.__mul__» ⟨[.ref l, .int 1 u], []⟩) (fun _ R s => s.heap.get? l = some { cls := .type "tuple", dict := dd, data := .seq items n, slots := sl } ∧ R (.ok (.ret (Value.ref l))) s) :=
  .of_wp fun prog w A R s h => by
    obtain ⟨hp, g, d, tk, os⟩ := s
    obtain ⟨hl, h⟩ := h
    have ty : (⟨hp, g, d, tk, os⟩ : Shared).TypeIs (.ref l) "tuple" := ⟨_, hl, rfl⟩
    wp_walk using wpAny_loadPart' hl
    exact ⟨_, rfl, h⟩
theorem tup_mul0 (l : Addr) (items : Array Value) (n : Nat) (dd : Option Addr) (sl : Array (Option Value)) (k : Int) (u : Tok) (h0 : k ≤ 0) (h1 : -(2 ^ 63) ≤ k) (hne : items.isEmpty = false) :
    Meets (Builtin.«tuple.__mul__» ⟨[.ref l, .int k u], []⟩) (fun _ R s => s.heap.get? l = some { cls := .type "tuple", dict := dd, data := .seq items n, slots := sl } ∧ R (.ok (.ret (Value.ref s.heap.objs.size))) { s with heap := s.heap.push { cls := Value.type "tuple", data := Data.seq #[] }, toks := s.toks }) :=
  .of_wp fun prog w A R s h => by
    obtain ⟨hp, g, d, tk, os⟩ := s
    obtain ⟨hl, h⟩ := h
    have d0 : (decide (k < -(2 ^ 63)) || decide (k ≥ 2 ^ 63)) = false := by rw [decide_eq_false (by omega), decide_eq_false (by omega)] <;> rfl
    have d1 : (items.isEmpty || k == 1) = false := by
      rw [hne, Bool.false_or]; exact beq_eq_false_iff_ne.mpr (by omega)
    have d2 : (decide (k ≤ 0) || items.isEmpty) = true := by rw [decide_eq_true h0] <;> rfl
    have sz : (#[] : Array Value).size ≤ sizeLine := Nat.zero_le _
    wp_walk using wpAny_loadPart' hl
    repeat (first
      | (refine wpAny_ite_false (decide_eq_false (by rw [d0]; exact Bool.false_ne_true)) ?_; wp_walk using wpAny_loadPart' hl)
      | (refine wpAny_ite_false (decide_eq_false (by rw [d1]; exact Bool.false_ne_true)) ?_; wp_walk using wpAny_loadPart' hl)
      | (refine wpAny_ite_true (decide_eq_true d2) ?_; wp_walk using wpAny_loadPart' hl)
      | (refine wpAny_ite_false (decide_eq_false (Nat.not_lt.mpr sz)) ?_; wp_walk using wpAny_loadPart' hl))
    exact ⟨_, rfl, h⟩
/-- a tuple, once or never -/
def rRep1 (K : PySem.W.Frag) : R2 := fun x y H Q => ∃ l k xs, x = .ref l ∧ y = .int k ∧ SqT K H l xs ∧ ((k = 1 ∧ Q (.ref l) H) ∨ (k ≤ 0 ∧ -(2 ^ 63) ≤ k ∧ xs ≠ [] ∧ ∀ p, H p = none → Q (.ref p) (upd H p (.tup []))))
theorem op_rep1 {X : Cx} : OpR X (binaryOp .Mult) (rRep1 X.K) := by
  intro pins s σ H x y v u Q I rx ry h
  obtain ⟨l, k, xs, ex, ey, sq, alt⟩ := h
  subst ex ey
  cases rx
  obtain ⟨t, eu⟩ := ry
  subst eu
  obtain ⟨its, r, ⟨⟨cls, dd, data, sl⟩, ho, hc, n, hd⟩, hs⟩ := I.tuple sq
  simp only at hc hd
  subst hc hd
  have isT : s.TypeIs (.ref l) "tuple" := ⟨_, ho, rfl⟩
  rcases alt with ⟨k1, q⟩ | ⟨k0, kb, ne, q⟩
  · subst k1
    exact wpAny_binaryOp_repeat_ref (T := "tuple") (U := "int") (by decide) isT (fun s' => typeIs_int s' 1 t) noFill_tuple_mul F.fills_int_mul F.slot_int_rmul repeat_tuple F.slot_int_index.lookup
      (call_meets F.slot_int_rmul (typeIs_int s 1 t) F.entry_int_rmul (F.args_int_rmul_2 _ _) (int_rmul_tuple 1 t l its.toArray n dd sl) ⟨ho, rfl, isT, call_meets F.slot_tuple_mul isT F.entry_tuple_mul (F.args_tuple_mul_2 _ _) (tup_mul1 l its.toArray n dd sl t) ⟨ho, .ref l, H, I, rfl, q⟩⟩)
  · have full : its.toArray.isEmpty = false := by
      cases its with
      | cons a b => rfl
      | nil => cases r; exact absurd rfl ne
    exact wpAny_binaryOp_repeat_ref (T := "tuple") (U := "int") (by decide) isT (fun s' => typeIs_int s' k t) noFill_tuple_mul F.fills_int_mul F.slot_int_rmul repeat_tuple F.slot_int_index.lookup
      (call_meets F.slot_int_rmul (typeIs_int s k t) F.entry_int_rmul (F.args_int_rmul_2 _ _) (int_rmul_tuple k t l its.toArray n dd sl) ⟨ho, rfl, isT, call_meets F.slot_tuple_mul isT F.entry_tuple_mul (F.args_tuple_mul_2 _ _) (tup_mul0 l its.toArray n dd sl k t k0 kb full)
        ⟨ho, .ref s.heap.objs.size, _, I.laid (t' := s.toks) (o := .tup []) (fun b ob q => Heap.get?_push_of_some _ q) (Nat.le_refl _) ⟨Nat.zero_le _, [], .nil, IsTup.new _ _⟩, rfl, q _ (I.hok.fresh (Nat.le_refl _))⟩⟩)
def vMulW : Va → Va → Cv → Re Va
  | .tup xs, .int k, c => if k = 1 then .ok (.tup xs) c else if k ≤ 0 ∧ k.natAbs < 9223372036854775808 ∧ xs.length ≠ 0 then .ok (.tup []) c else vMul (.tup xs) (.int k) c
  | a, b, c => vMul a b c
def rMulW (K : PySem.W.Frag) : R2 := fun x y H Q => rMulV K x y H Q ∨ rRep1 K x y H Q
section
variable {X : Cx} {T : Gt} {W : WX} {e a b : Expr} {f h : SE} {p p2 pos : Pos}
theorem op_mulW : OpR X (binaryOp .Mult) (rMulW X.K) := op_mulV.or op_rep1
theorem ov_mulW : OpV X T W (rMulW X.K) vMulW := by
  intro g σ H env cv x y a b Q S rx ry r
  unfold vMulW at r
  split at r
  · rename_i xs k
    split at r
    · rename_i e
      cases ry
      cases rx with
      | tup hh rr => exact .inr ⟨_, _, _, rfl, rfl, SqT.of (hid_some hh).2, .inl ⟨e, r H (Po.refl S) _ (.tup hh rr)⟩⟩
    · split at r
      · rename_i e
        cases ry
        cases rx with
        | tup hh rr =>
          refine .inr ⟨_, _, _, rfl, rfl, SqT.of (hid_some hh).2,   .inr ⟨e.1, by have := e.2.1; omega, fun z => e.2.2 (by rw [← rr.length, z]; rfl), fun p n => ?_⟩⟩
          exact r _ (Po.new S n fun _ z => by cases z) _ (.tup (hid_of (S.newM n) upd_same) .nil)
      · exact .inl (ov_mul g σ H env cv _ _ _ _ Q S rx ry r)
  · exact .inl (ov_mul g σ H env cv _ _ _ _ Q S rx ry r)
end

/-! ### a tuple's items by steps -/
def stepA {α : Type} (xs : List α) (lo hi : Option Int) (st : Int) : List α :=
  (List.range (Builtin.Slice.slicePlaces (Builtin.Slice.sliceAdjust lo hi st (xs.length : Int)).1 (Builtin.Slice.sliceAdjust lo hi st (xs.length : Int)).2 st)).filterMap fun (k : Nat) => xs[((Builtin.Slice.sliceAdjust lo hi st (xs.length : Int)).1 + (k : Int) * st).toNat]?
theorem step_get {prog : Program} {w : World} {A : Around} {E : Value → Shared → Prop} {s : Shared} {t sl : Addr} {items : List Value} {vl vu vs : Value} {lo hi : Option Int} {st : Int} {Q : Value → Shared → Prop} (ht : IsTup s.heap t items.toArray) (hs : s.heap.IsSliceOf sl vl vu vs)
    (pl : IsPart vl lo) (pu : IsPart vu hi) (ps : IsPart vs (some st)) (n0 : st ≠ 0) (n1 : st ≠ 1) (hsz : (stepA items lo hi st).length ≤ sizeLine)
    (h : Q (.ref s.heap.objs.size) { s with heap := s.heap.push { cls := .type "tuple", data := .seq (stepA items lo hi st).toArray } }) : wpAny (model prog w) A (getItem (.ref t) (.ref sl)) Q E s := by
  obtain ⟨os, hos, hcs, hds⟩ := id hs
  have isSl : s.TypeIs (.ref sl) "slice" := ⟨os, hos, hcs⟩
  have okSz : sizeOk (.seq (stepA items lo hi st).toArray) := by
    show (stepA items lo hi st).toArray.size ≤ sizeLine
    rw [List.size_toArray]; exact hsz
  unfold getItem
  try with_reducible refine wpAny_holding ?_
  first | refine wpAny_bind (wpAny_pure ?_) | skip
  refine wpAny_bind (wpAny_sequenceKey ht.typeIs (by decide) (wpAny_bind (wpAny_callSpecial?_slot (name := Str.ofString "__getitem__") ht.typeIs PyProof.Rows.slot_tuple_getitem (wpAny_call_entry PyProof.Rows.slot_tuple_getitem ht.typeIs entry_tuple_getitem ?_ (args_tuple_getitem _ _)))))
  show wpAny _ _ (Builtin.Tuple.tupleItemsOf (.ref t) >>= _) _ _ s
  refine wpAny_bind (tupleItemsOf_ ht (wpAny_bind (wpAny_typeOf isSl ?_)))
  rw [if_pos (by decide)]
  have applied : ∀ {Q : Int × Int × Nat → Shared → Prop}, Q ((Builtin.Slice.sliceAdjust lo hi st (items.length : Int)).1, st, Builtin.Slice.slicePlaces (Builtin.Slice.sliceAdjust lo hi st (items.length : Int)).1 (Builtin.Slice.sliceAdjust lo hi st (items.length : Int)).2 st) s →
      ∀ {E : Value → Shared → Prop} {A : Around}, wpAny (model prog w) A (Builtin.Slice.sliceApplied (.ref sl) (pure (items.toArray.size : Int))) Q E s := by
    intro Q q E A
    unfold Builtin.Slice.sliceApplied Builtin.Slice.sliceFields
    refine wpAny_bind (wpAny_bind (wpAny_field hos hds (x := vl) rfl (wpAny_bind (wpAny_field hos hds (x := vu) rfl (wpAny_bind (wpAny_field hos hds (x := vs) rfl (wpAny_pure ?_)))))))
    refine wpAny_bind (HT.slicePart_ ps ?_)
    show wpAny _ _ (if (st == 0) = true then _ else _) _ _ s
    rw [if_neg (by simpa using n0)]
    refine wpAny_bind (HT.slicePart_ pl (wpAny_bind (HT.slicePart_ pu (wpAny_bind (wpAny_pure ?_)))))
    exact wpAny_pure q
  refine wpAny_bind (applied ?_)
  have no : ¬ (((Builtin.Slice.sliceAdjust lo hi st (items.length : Int)).1 == 0 && st == 1 && (Builtin.Slice.slicePlaces (Builtin.Slice.sliceAdjust lo hi st (items.length : Int)).1 (Builtin.Slice.sliceAdjust lo hi st (items.length : Int)).2 st) == items.toArray.size) = true) := by
    intro z
    rw [Bool.and_eq_true, Bool.and_eq_true] at z
    exact n1 (eq_of_beq z.1.2)
  show wpAny _ _ (if ((Builtin.Slice.sliceAdjust lo hi st (items.length : Int)).1 == 0 && st == 1 && (Builtin.Slice.slicePlaces (Builtin.Slice.sliceAdjust lo hi st (items.length : Int)).1 (Builtin.Slice.sliceAdjust lo hi st (items.length : Int)).2 st) == items.toArray.size) = true then _ else _) _ _ s
  rw [if_neg no]
  have e : ((List.range (Builtin.Slice.slicePlaces (Builtin.Slice.sliceAdjust lo hi st (items.length : Int)).1 (Builtin.Slice.sliceAdjust lo hi st (items.length : Int)).2 st)).filterMap fun (k : Nat) => items.toArray[((Builtin.Slice.sliceAdjust lo hi st (items.length : Int)).1 + (k : Int) * st).toNat]?).toArray = (stepA items lo hi st).toArray := by
    unfold stepA
    simp only [List.getElem?_toArray]
  rw [e]
  first
    | exact wpAny_bind (m := Builtin.Tuple.tupleExact _) (wpAny_newObj_type (wpAny_pure ⟨_, rfl, wpAny_pure h⟩) okSz)
    | exact wpAny_bind (m := Builtin.Tuple.tupleExact _) (wpAny_newObj_type (wpAny_bind (wpAny_pure (wpAny_pure ⟨_, rfl, wpAny_pure h⟩))) okSz)
    | exact wpAny_bind (wpAny_bind (m := Builtin.Tuple.tupleExact _) (wpAny_newObj_type (wpAny_pure (wpAny_pure ⟨_, rfl, wpAny_pure h⟩)) okSz))
    | exact wpAny_bind (wpAny_bind (m := Builtin.Tuple.tupleExact _) (wpAny_newObj_type (wpAny_pure ⟨_, rfl, wpAny_pure h⟩) okSz))
/-- a[lo:hi:step] of a tuple; of a list through sliceRange -/
def rStep (K : PySem.W.Frag) : V → Option Int → Option Int → Int → Hp → VK → Prop := fun x lo hi st H Q => st ≠ 0 ∧ st ≠ 1 ∧ ∃ a xs, x = .ref a ∧ SqT K H a xs ∧ (stepA xs lo hi st).length ≤ sizeLine ∧ ∀ p, H p = none → Q (.ref p) (upd H p (.tup (stepA xs lo hi st)))
theorem step_vals {xs : List V} {us : List Value} (r : Vals xs us) (lo hi : Option Int) (st : Int) : Vals (stepA xs lo hi st) (stepA us lo hi st) := by
  unfold stepA
  rw [r.length]
  generalize List.range _ = ks
  generalize (Builtin.Slice.sliceAdjust lo hi st (us.length : Int)).1 = b
  induction ks with
  | nil => exact .nil
  | cons k ks ih =>
    rw [List.filterMap_cons, List.filterMap_cons]
    cases q : xs[(b + (k : Int) * st).toNat]? with
    | none =>
      have : us[(b + (k : Int) * st).toNat]? = none := by
        rw [List.getElem?_eq_none_iff] at q ⊢
        rw [← r.length]; exact q
      rw [this]; exact ih
    | some x =>
      obtain ⟨u, hu, ru⟩ := r.get q
      rw [hu]
      exact .cons ru ih
theorem step_repL {K : PySem.W.Frag} {mg : Str → Option Value} {c : Option Addr} {H : Hp} {xs : List V} {ds : List Va} (r : RepL K mg c H xs ds) (lo hi : Option Int) (st : Int) : RepL K mg c H (stepA xs lo hi st) (stepA ds lo hi st) := by
  unfold stepA
  rw [r.length]
  generalize List.range _ = ks
  generalize (Builtin.Slice.sliceAdjust lo hi st (ds.length : Int)).1 = b
  induction ks with
  | nil => exact .nil
  | cons k ks ih =>
    rw [List.filterMap_cons, List.filterMap_cons]
    cases q : xs[(b + (k : Int) * st).toNat]? with
    | none =>
      have : ds[(b + (k : Int) * st).toNat]? = none := by
        rw [List.getElem?_eq_none_iff] at q ⊢
        rw [← r.length]; exact q
      rw [this]; exact ih
    | some x =>
      obtain ⟨u, hu, ru⟩ := r.get q
      rw [hu]
      exact .cons ru ih
def vSt : Va → Option Int → Option Int → Int → Cv → Re Va
  | .tup ds, lo, hi, st, c => if st ≠ 0 ∧ st ≠ 1 ∧ (stepA ds lo hi st).length ≤ L24 then .ok (.tup (stepA ds lo hi st)) c else .stk
  | _, _, _, _, _ => .stk
def eSt (f : SE) (lo hi st : Ev → Cv → Re (Option Int)) : SE := fun env c => (f env c).bind fun d c1 => (lo env c1).bind fun l c2 => (hi env c2).bind fun u c3 => (st env c3).bind fun k c4 => match k with
  | some k => vSt d l u k c4
  | none => .stk
section
variable {X : Cx} {T : Gt} {W : WX} {e : Expr} {f : SE} {p2 pos : Pos} {lo hi : Option Expr} {st : Expr} {fl fu fs : Ev → Cv → Re (Option Int)}
theorem re_step (he : RB X T W e f) (hl : RO X T W lo fl) (hu : RO X T W hi fu) (hst : RO X T W (some st) fs) : RE X T W (.Subscript e (.Slice lo hi (some st) p2) pos) (eSt f fl fu fs) := by
  constructor
  intro pins s σ H Q I ⟨g, env, cv, S, r⟩
  refine Subscript_ (thn (he.run pins s σ H (fun x H1 => ∃ d c1, SR (gx X T) g σ H1 env c1 ∧ Po (gx X T) g H H1 c1 ∧ RepB (gx X T) g (hid H1 (Mt g σ env)) H1 x d ∧ ROut (gx X T) W g σ H1 (PV (gx X T) g σ env Q) ((fl env c1).bind fun l c2 => (fu env c2).bind fun u c3 => (fs env c3).bind fun k c4 => match k with
      | some k => vSt d l u k c4
      | none => .stk)) I ⟨g, env, cv, S, r.bnd.mono fun d c1 H1 p q x rx => ⟨d, c1, S.after p, p, rx, q.2⟩⟩) fun v s1 ⟨x, H1, I1, r1, d, c1, S1, p1, rx, q1⟩ => ?_)
  refine wpAny_Slice (thn (hl.run pins s1 σ H1 (fun l H2 => ∃ c2, SR (gx X T) g σ H2 env c2 ∧ Po (gx X T) g H1 H2 c2 ∧ ROut (gx X T) W g σ H2 (PV (gx X T) g σ env Q) ((fu env c2).bind fun u c3 => (fs env c3).bind fun k c4 => match k with
      | some k => vSt d l u k c4
      | none => .stk)) I1 ⟨g, env, c1, S1, q1.bnd.mono fun l c2 H2 p q => ⟨c2, S1.after p, p, q.2⟩⟩) fun vl s2 ⟨l, H2, I2, pl, c2, S2, p2, q2⟩ => thn (hu.run pins s2 σ H2 (fun u H3 => ∃ c3, SR (gx X T) g σ H3 env c3 ∧ Po (gx X T) g H2 H3 c3 ∧ ROut (gx X T) W g σ H3 (PV (gx X T) g σ env Q) ((fs env c3).bind fun k c4 => match k with
      | some k => vSt d l u k c4
      | none => .stk)) I2 ⟨g, env, c2, S2, q2.bnd.mono fun u c3 H3 p q => ⟨c3, S2.after p, p, q.2⟩⟩) fun vu s3 ⟨u, H3, I3, pu, c3, S3, p3, q3⟩ => ?_)
  refine thn (hst.run pins s3 σ H3 (fun k H4 => ∃ c4, SR (gx X T) g σ H4 env c4 ∧ Po (gx X T) g H3 H4 c4 ∧ ROut (gx X T) W g σ H4 (PV (gx X T) g σ env Q) (match k with
      | some k => vSt d l u k c4
      | none => .stk)) I3 ⟨g, env, c3, S3, q3.bnd.mono fun k c4 H4 p q => ⟨c4, S3.after p, p, q.2⟩⟩) fun vk s4 ⟨k, H4, I4, pk, c4, S4, p4, q4⟩ => ?_
  have I5 : Inv X pins σ H4 { s4 with heap := s4.heap.push { cls := .type "slice", data := .fields #[vl, vu, vk] } } := I4.kept (t' := s4.toks) fun b ob q => Heap.get?_push_of_some _ q
  have rx4 := ((rx.after S1 p2).after S2 p3).after S3 p4
  cases k with
  | none => exact q4.elim
  | some k =>
    unfold vSt at q4
    cases d with
    | tup ds =>
      by_cases hk : k ≠ 0 ∧ k ≠ 1 ∧ (stepA ds l u k).length ≤ L24
      · simp only [if_pos hk] at q4
        obtain ⟨n0, n1, sz⟩ := hk
        cases rx4 with
        | @tup a xs _ hh rr =>
          cases r1
          obtain ⟨its, rv, ht, hz⟩ := I5.tuple (SqT.of (hid_some hh).2)
          have sz' : (stepA its l u k).length ≤ sizeLine := by
            rw [← (step_vals rv l u k).length, (step_repL rr l u k).length, ← l24]; exact sz
          have done : wpAny (model X.prog X.w) X.A (getItem (.ref a) (.ref s4.heap.objs.size)) (EP X pins σ Q) X.xe { s4 with heap := s4.heap.push { cls := .type "slice", data := .fields #[vl, vu, vk] } } :=
            step_get ht (Heap.IsSliceOf.new ..) pl pu pk n0 n1 sz' ⟨.ref _, _, I5.laid (t' := s4.toks) (o := .tup (stepA _ l u k)) (fun b ob q => Heap.get?_push_of_some _ q) (Nat.le_refl _) ⟨by rw [(step_vals rv l u k).length]; exact sz', _, step_vals rv l u k, IsTup.new _ _⟩, rfl,
              q4 _ (Po.new S4 (I5.hok.fresh (Nat.le_refl _)) fun _ z => by cases z) _ (.tup (hid_of (S4.newM (I5.hok.fresh (Nat.le_refl _))) upd_same) (RepL.mono (Po.le S4 (Po.new S4 (I5.hok.fresh (Nat.le_refl _)) fun _ z => by cases z)) (step_repL rr l u k)))⟩
          exact tail_any (ops := [.ref a, .ref s4.heap.objs.size]) ht.typeIs PyProof.Rows.slot_tuple_getitem.lookup done (by with_unfolding_all rfl)
      · simp only [if_neg hk] at q4
        exact q4.elim
    | _ => exact q4.elim
end
end G

set_option Elab.async false
set_option linter.all false
set_option maxRecDepth 100000
set_option maxHeartbeats 2000000
namespace G
set_option autoImplicit false
open PySem PySem.Spec PyProof.Rows L2
/-! ### short names for the generator -/
section
variable {X : Cx} {T : Gt} {W : WX}
theorem ov_lt : OpV X T W (rCmp X PySem.W.dataLt fun i j => decide (i < j)) vLt := ov_cmp _ _
theorem ov_le : OpV X T W (rCmp X (fun a b => !PySem.W.dataLt b a) fun i j => decide (i ≤ j)) vLe := ov_cmp _ _
theorem ov_gt : OpV X T W (rCmp X (fun a b => PySem.W.dataLt b a) fun i j => decide (j < i)) vGt := ov_cmp _ _
theorem ov_ge : OpV X T W (rCmp X (fun a b => !PySem.W.dataLt a b) fun i j => decide (j ≤ i)) vGe := ov_cmp _ _
def ALen (fa : SA) (n : Nat) : Prop := ∀ env c ds c', fa env c = .ok ds c' → ds.length = n
theorem alen_nil : ALen aNil 0 := fun env c ds c' h => by cases h; rfl
theorem alen_cons {f : SE} {fa : SA} {n : Nat} (h : ALen fa n) : ALen (aCons f fa) (n + 1) := fun env c ds c' e => by
  unfold aCons at e
  cases q : f env c with
  | ok d c1 =>
    rw [q] at e
    have e : ((fa env c1).bind fun ds c2 => Re.ok (d :: ds) c2) = Re.ok ds c' := e
    cases q2 : fa env c1 with
    | ok es c2 =>
      rw [q2] at e
      cases e
      rw [List.length_cons, h _ _ _ _ q2]
    | exn x c => rw [q2] at e; cases e
    | stk => rw [q2] at e; cases e
  | exn x c => rw [q] at e; cases e
  | stk => rw [q] at e; cases e
/-- a, b = e -/
def sUnp (f : SE) (t : Va → Option (List Va)) (is : List Nat) : SS := fun env c => (f env c).sbind env fun d c1 => match t d with
  | some ds => .nx (setE env is (ds.map .val)) c1
  | none => .stk
theorem rs_unp {fr : Bool} {tg e : Expr} {f : SE} {t : Va → Option (List Va)} {is : List Nat} {pos : Pos} (he : RE X T W e f) (hg : RG X tg is t) (hs : swapsWithSole [tg] e pos.line X.env = pure false := by rfl) (hw : swappedStores [tg] e X.env = pure none := by rfl)
    (h1 : (assignEach [tg] X.env).map (·.2) = [assign tg X.env] := by rfl) : RS X T W fr (.Assign [tg] e pos) (sUnp f t is) :=
  ps_imp (ps_asg he hg.run hs hw h1) fun D σ H ⟨g, env, cv, S, r⟩ => ⟨g, env, cv, S, (SOut.bnd S r).mono fun d c1 H1 p q x rx => by
    have q2 := q.2
    cases et : t d with
    | none => rw [et] at q2; exact q2.elim
    | some ds =>
      rw [et] at q2
      exact ⟨_, g.c, _, d, ds, rx, le_hid_of, et, fun xs rxs => q2 _ _ (SPo.vals (S.after p) (hg.len _ _ et) rxs)⟩⟩
/-- name = [..] on one line, as a value -/
theorem rs_lcV {fr : Bool} {tg iter elt : Expr} {ifs : List Expr} {scope : Scope} {fi : SI} {f : SE} {tt : ST} {t : Va → Option (List Va)} {is : List Nat} {pos spos py : Pos} (own : List (Str × Nat)) (j : JX X W) (i : Nat) {y : Str} (hi : RI X T W tg iter fi) (ok : blkC X.N X.env.scope scope own = true)
    (hg : ∀ (s : Shared) (H : Hp) (C : Addr) (cl : List (Str × Addr)) (fp : List Addr), JX (X.blk s H scope (compEnvC scope cl C X.env) fp) WF → RG (X.blk s H scope (compEnvC scope cl C X.env) fp) tg is t)
    (ht : ∀ (s : Shared) (H : Hp) (C : Addr) (cl : List (Str × Addr)) (fp : List Addr), JX (X.blk s H scope (compEnvC scope cl C X.env) fp) WF → RTs (X.blk s H scope (compEnvC scope cl C X.env) fp) T WF ifs tt)
    (he : ∀ (s : Shared) (H : Hp) (C : Addr) (cl : List (Str × Addr)) (fp : List Addr), JX (X.blk s H scope (compEnvC scope cl C X.env) fp) WF → RE (X.blk s H scope (compEnvC scope cl C X.env) fp) T WF elt f) (hsub : ∀ i ∈ is, i ∈ own.map (·.2) := by decide) (hc : X.calm = true := by rfl)
    (hy : X.N[i]? = some y := by rfl) (hyl : X.env.scope.names.lookup y = some .local := by rfl) (hk : X.env.scope.kind = .function := by rfl) (hln : (py.line == pos.line) = true := by rfl) (ha : (scope.names.any fun (n, k) => n == y && (k == .local || k == .cell)) = false := by rfl)
    (hs : ∀ x, foldedSetIterable iter X.env x = pure x := by intro _; rfl) : RS X T W fr (.Assign [.Name y py] (.ListComp elt [⟨tg, iter, ifs, 0⟩] scope pos) spos) (sVal i (eLc fi t is (own.map (·.2)) tt f)) :=
  ps_imp (ps_setLc (tt := TB (gx X T) WF tt) (te := TD (gx X T) WF f) hc j.nd hy hyl (sw_true hk hyl hln ha) hi (blkOk_by ok) (fun s H C cl fp => (hg s H C cl fp (j.blk ..)).run) (fun s H C cl fp => ht s H C cl fp (j.blk ..)) (fun s H C cl fp => he s H C cl fp (j.blk ..)) hs) fun D σ H ⟨g, env, cv, S, r⟩ =>
    lc_tf own (hg X.s_0 H 0 [] [] (j.blk ..)).len hsub (td_of_tf ⟨g, env, cv, S, (SOut.bnd S r).mono fun d c1 H1 p q x rx => q.2 _ _ (SR.setVal (S.after p) rx)⟩)
/-- a def's data -/
structure Df (K : PySem.W.Frag) (mg : Str → Option Value) (x : Str) (st : Stmt) (ps : List Str) (f : Addr) (fd : FuncData) : Prop where
  F : Fun K x x st f fd
  mgf : mg x = some (.ref f)
  bi : Binds K fd ps []
theorem fn_A {P : Program} {w : World} {K : PySem.W.Frag} {mg : Str → Option Value} {base : Heap} {Tb : List (Addr × Str)} {x : Str} {st : Stmt} {f : Addr} {fd : FuncData} {N ps : List Str} {k : Nat} {fr : Bool} {fb : SS} (D : Df K mg x st ps f fd) (S : C8.scC N ps (defScope st) = true) (hN : ps.length ≤ N.length)
    (hbody : ∀ (cdv : Value) (A : Around) (outer : List Env) (s : Shared) (H : Hp) (E : XK), Room k (A.deeper (envOfC x (defScope st) s.heap.objs.size f cdv)) →
      JX (cxOf (L2N.CX P w) P w K mg base N x (defScope st) f cdv A outer s H E) (fun cls d _ H => E cls d H) → RSs (cxOf (L2N.CX P w) P w K mg base N x (defScope st) f cdv A outer s H E) ⟨Tb, none, none, none⟩ (fun cls d _ H => E cls d H) fr (defBody st) fb) :
    FnA P w K mg base (L2N.CX P w) (k + 1) x f fd ps (spG ⟨K, mg, Tb, none, none, none⟩ ps.length fr (runF N.length fr fb)) :=
  ⟨fn_G D.F (C8.fnScope_by S) hN hbody, D.mgf, D.F.kp, D.bi⟩
theorem FnA.mono {P : Program} {w : World} {K : PySem.W.Frag} {mg : Str → Option Value} {base : Heap} {CX : CXT} {j k : Nat} {x : Str} {f : Addr} {fd : FuncData} {ps : List Str} {sp : Sp} (F : FnA P w K mg base CX j x f fd ps sp) (h : j ≤ k) : FnA P w K mg base CX k x f fd ps sp := ⟨F.ok.mono h, F.mgf, F.kp, F.bi⟩
/-- .. the code object known -/
theorem fn_AC {P : Program} {w : World} {K : PySem.W.Frag} {mg : Str → Option Value} {base : Heap} {Tb : List (Addr × Str)} {x : Str} {st : Stmt} {f c : Addr} {fd : FuncData} {N ps : List Str} {k : Nat} {fr : Bool} {fb : SS} (D : Df K mg x st ps f fd) (hcd : fd.code = .ref c) (S : C8.scC N ps (defScope st) = true) (hN : ps.length ≤ N.length)
    (hbody : ∀ (A : Around) (outer : List Env) (s : Shared) (H : Hp) (E : XK), Room k (A.deeper (envOfC x (defScope st) s.heap.objs.size f (.ref c))) →
      JX (cxOf (L2N.CX P w) P w K mg base N x (defScope st) f (.ref c) A outer s H E) (fun cls d _ H => E cls d H) → RSs (cxOf (L2N.CX P w) P w K mg base N x (defScope st) f (.ref c) A outer s H E) ⟨Tb, none, none, none⟩ (fun cls d _ H => E cls d H) fr (defBody st) fb) :
    FnA P w K mg base (L2N.CX P w) (k + 1) x f fd ps (spG ⟨K, mg, Tb, none, none, none⟩ ps.length fr (runF N.length fr fb)) := by
  refine ⟨fn_Gc D.F hcd (C8.fnScope_by S) hN hbody, D.mgf, D.F.kp, D.bi⟩
/-- a def that is never called: the bottom of a recursion -/
theorem fn_stk {P : Program} {w : World} {K : PySem.W.Frag} {mg : Str → Option Value} {base : Heap} {Tb : List (Addr × Str)} {x : Str} {st : Stmt} {f : Addr} {fd : FuncData} {ps : List Str} {k : Nat} {fr : Bool} (D : Df K mg x st ps f fd) :
    FnA P w K mg base (L2N.CX P w) k x f fd ps (spG ⟨K, mg, Tb, none, none, none⟩ ps.length fr fun _ _ => .stk) :=
  ⟨⟨fun vs H Q E h => h.1, fun A outer s H args us vs Q E hr e0 hb r h => by obtain ⟨_, g, cv, ds, _, _, _, z⟩ := h; exact z.elim⟩, D.mgf, D.F.kp, D.bi⟩
structure MgC (mg : Str → Option Value) (x : Str) (C : Addr) : Prop where
  mgc : mg x = some (.ref C)
end
end G

set_option Elab.async false
set_option linter.all false
set_option maxRecDepth 100000
set_option maxHeartbeats 2000000
namespace G
set_option autoImplicit false
open PySem PySem.Spec PyProof.Rows L2
/-! ### the end -/
theorem hid_no (H : Hp) : hid H (fun _ => False) = H := by
  funext b
  unfold hid
  simp
theorem law_sp {K : PySem.W.Frag} {mg : Str → Option Value} {Tb : List (Addr × Str)} {F : List Va → Cv → Re Va} {H : Hp} {a : Addr} {ns : List Int} (hF : ∃ c, F [.scr ns] none = .ok (.bl true) c) (hT : ∀ p ∈ Tb, H p.1 = some (.tbl #[])) (hS : SqL K H a (ns.map V.int)) :
    spG ⟨K, mg, Tb, none, none, none⟩ 1 false F [.ref a] H (fun v _ => v = .bl true) (fun _ _ _ => False) := by
  obtain ⟨c, hF⟩ := hF
  refine ⟨rfl, ⟨none, fun _ => False, H⟩, none, [.scr ns], ?_, rfl, ?_, ?_⟩
  · refine ⟨rfl, fun i d h => by simp at h, fun i d h => by simp at h, fun i d h => by simp at h, fun i d h => by simp at h, fun i j d e a h => by simp at h, trivial, fun a h => (by cases h), fun b h => h.elim, fun b o e _ _ => e, fun b o e => ⟨o, e⟩, fun p hp => LamX.TabS.nil (hT p hp), fun g0 e => by cases e⟩
  · refine .cons (.scr ?_) .nil
    show SqL K (hid H fun _ => False) a _
    rw [hid_no]; exact hS
  · rw [hF]
    intro H' p x rx
    cases rx
    rfl
theorem hCX_none {P : Program} {w : World} {H : Hp} {s : Shared} {e : Value} {s' : Shared} (h : L2N.CX P w [] H s (fun _ _ _ => False) e s') : False := by
  obtain ⟨_, _, _, _, _, _, _, _, _, _, _, _, z⟩ := h
  exact z
def SupRow (K : PySem.W.Frag) (mg : Str → Option Value) (e n : Str) (b : Bool) : Prop := ∃ (C : Addr) (c2 : Value) (v : V), mg e = some (.ref C) ∧ (mg n = some c2 ∨ (mg n = none ∧ bootBuiltins n = some c2 ∧ n ≠ "__name__")) ∧ RelV v c2 ∧ (∀ u, RelV v u → u = c2) ∧
  ExcC K C ∧ PySem.W.kitOne K (.ref C) c2 = some b ∧ PySem.W.exmOne K (.ref C) c2 = some b
def supOf (T : List (Str × Str × Bool)) : Sup := fun e n => (T.find? fun p => p.1 == e && p.2.1 == n).map (·.2.2)
theorem supOk_of {K : PySem.W.Frag} {mg : Str → Option Value} {T : List (Str × Str × Bool)} (h : ∀ p ∈ T, SupRow K mg p.1 p.2.1 p.2.2) : SupOkK K mg (supOf T) := fun e n b q => by
  unfold supOf at q
  cases f : T.find? (fun p => p.1 == e && p.2.1 == n) with
  | none => rw [f] at q; cases q
  | some p =>
    rw [f] at q
    cases q
    have m := List.mem_of_find?_eq_some f
    have t := List.find?_some f
    simp only [Bool.and_eq_true, beq_iff_eq] at t
    have r := h p m
    rw [t.1, t.2] at r
    exact r
theorem sup_row {K : PySem.W.Frag} {mg : Str → Option Value} {e n : Str} {C D : Addr} {b : Bool} (m1 : mg e = some (.ref C)) (m2 : mg n = some (.ref D)) (x : ExcC K C) (h1 : PySem.W.subIn K (.ref D) (.type "BaseException") = some true) (h2 : PySem.W.hasDictIn K D = true) (h3 : PySem.W.typeIn K (.ref D) = some (.type "type"))
    (h4 : PySem.W.subIn K (.ref C) (.ref D) = some b) (hq : C = D → b = true) : SupRow K mg e n b := by
  have ex := PySem.W.exm_ref h1 h2 h3 h4
  refine ⟨C, .ref D, .ref D, m1, .inl m2, rfl, fun u h => h, x, ?_, ex⟩
  unfold PySem.W.exmOne at ex
  rw [if_pos (by rw [h1] <;> rfl)] at ex
  unfold PySem.W.kitOne
  split
  · rename_i t
    rw [hq (by simpa using t)]
  · exact ex
end G

set_option Elab.async false
set_option linter.all false
set_option maxRecDepth 100000
set_option maxHeartbeats 2000000
namespace G
set_option autoImplicit false
open PySem PySem.Spec PyProof.Rows L2

/-! ### the meanings, computed -/
section
variable {α β : Type} {c c1 : Cv} {e : Exn} {env : Ev}
theorem bd_ok {a : α} {k : α → Cv → Re β} : (Re.ok a c).bind k = k a c := rfl
theorem bd_exn {k : α → Cv → Re β} : (Re.exn e c : Re α).bind k = .exn e c := rfl
theorem sb_ok {a : α} {k : α → Cv → Rs} : (Re.ok a c).sbind env k = k a c := rfl
theorem sb_exn {k : α → Cv → Rs} : (Re.exn e c : Re α).sbind env k = .exn e env c := rfl
end
abbrev IT (ns : List Int) : Va := .tup (ns.map .int)
abbrev IL (ns : List Int) : Va := .lst (ns.map .int)
theorem intsOf_map (ns : List Int) : intsOf (ns.map .int) = some ns := by
  induction ns with
  | nil => rfl
  | cons n r ih => simp [intsOf, ih]
theorem blsOf_map (ns : List Bool) : blsOf (ns.map .bl) = some ns := by
  induction ns with
  | nil => rfl
  | cons n r ih => simp [blsOf, ih]
theorem vAll_map (bs : List Bool) (c : Cv) : vAll (.lst (bs.map .bl)) c = .ok (.bl (bs.all id)) c := by simp [vAll, vBls, blsOf_map]
theorem vAll_mapf {α : Type} (f : α → Bool) (l : List α) (c : Cv) : vAll (.lst (l.map fun x => .bl (f x))) c = .ok (.bl (l.all f)) c := by
  have : (l.map fun x => Va.bl (f x)) = (l.map f).map .bl := by simp
  rw [this, vAll_map]
  simp
theorem wfs_ints (n : Nat) (ns : List Int) : wfs (n + 1) (ns.map .int) = true := by
  induction ns with
  | nil => simp [wfs]
  | cons a r ih => simp [wfs, wf, ih]
theorem eqvAll_ints : ∀ ns ms : List Int, PyData.eqvAll (toPs (ns.map .int)) (toPs (ms.map .int)) = decide (ns = ms)
  | [], [] => by simp [toPs, PyData.eqvAll]
  | [], m :: ms => by simp [toPs, PyData.eqvAll]
  | n :: ns, [] => by simp [toPs, PyData.eqvAll]
  | n :: ns, m :: ms => by
    simp only [List.map_cons, toPs, toP, PyData.eqvAll, eqvAll_ints ns ms, PyData.eqv]
    by_cases h : n = m <;> by_cases h2 : ns = ms <;> simp [h, h2]
theorem eq_int (i j : Int) (c : Cv) : vEq (.int i) (.int j) c = .ok (.bl (decide (i = j))) c := by
  by_cases h : i = j <;> simp [vEq, wf, toP, PyData.eqv, h]
theorem ne_int (i j : Int) (c : Cv) : vNe (.int i) (.int j) c = .ok (.bl (decide (i ≠ j))) c := by
  by_cases h : i = j <;> simp [vNe, wf, toP, PyData.eqv, h]
theorem eq_bl (i j : Bool) (c : Cv) : vEq (.bl i) (.bl j) c = .ok (.bl (decide (i = j))) c := by
  cases i <;> cases j <;> simp [vEq, wf, toP, PyData.eqv]
theorem ne_bl (i j : Bool) (c : Cv) : vNe (.bl i) (.bl j) c = .ok (.bl (decide (i ≠ j))) c := by
  cases i <;> cases j <;> simp [vNe, wf, toP, PyData.eqv]
theorem eq_IT (ns ms : List Int) (c : Cv) : vEq (.tup (ns.map .int)) (.tup (ms.map .int)) c = .ok (.bl (decide (ns = ms))) c := by
  simp [vEq, wf, wfs_ints, toP, PyData.eqv, eqvAll_ints]
theorem ne_IT (ns ms : List Int) (c : Cv) : vNe (.tup (ns.map .int)) (.tup (ms.map .int)) c = .ok (.bl (decide (ns ≠ ms))) c := by
  simp [vNe, wf, wfs_ints, toP, PyData.eqv, eqvAll_ints]
theorem ne_nil (ds : List Va) (h : wfs 59 ds = true) (c : Cv) : vNe (.lst ds) (.lst []) c = .ok (.bl (!ds.isEmpty)) c := by
  cases ds with
  | nil => simp [vNe, wf, wfs, toP, toPs, PyData.eqv, PyData.eqvAll]
  | cons d r =>
    have h' : wf 60 (.lst (d :: r)) = true := h
    have h2 : wf 60 (.lst []) = true := by simp [wf, wfs]
    simp [vNe, h', h2, toP, toPs, PyData.eqv, PyData.eqvAll]
theorem eq_nil (ds : List Va) (h : wfs 59 ds = true) (c : Cv) : vEq (.lst ds) (.lst []) c = .ok (.bl (ds.isEmpty)) c := by
  cases ds with
  | nil => simp [vEq, wf, wfs, toP, toPs, PyData.eqv, PyData.eqvAll]
  | cons d r =>
    have h' : wf 60 (.lst (d :: r)) = true := h
    have h2 : wf 60 (.lst []) = true := by simp [wf, wfs]
    simp [vEq, h', h2, toP, toPs, PyData.eqv, PyData.eqvAll]
theorem le_int (i j : Int) (c : Cv) : vLe (.int i) (.int j) c = .ok (.bl (decide (i ≤ j))) c := rfl
theorem lt_int (i j : Int) (c : Cv) : vLt (.int i) (.int j) c = .ok (.bl (decide (i < j))) c := rfl
theorem ge_int (i j : Int) (c : Cv) : vGe (.int i) (.int j) c = .ok (.bl (decide (j ≤ i))) c := rfl
theorem gt_int (i j : Int) (c : Cv) : vGt (.int i) (.int j) c = .ok (.bl (decide (j < i))) c := rfl
theorem sub_int (i j : Int) (c : Cv) : vSub (.int i) (.int j) c = .ok (.int (i - j)) c := rfl
theorem add_int (i j : Int) (c : Cv) : vAdd (.int i) (.int j) c = .ok (.int (i + j)) c := rfl
theorem neg_int (i : Int) (c : Cv) : vNeg (.int i) c = .ok (.int (-i)) c := rfl
theorem abs_int (i : Int) (c : Cv) : vAbs (.int i) c = .ok (.int (if i < 0 then -i else i)) c := rfl
theorem div_int (i j : Int) (c : Cv) (h0 : 0 < j) (h1 : j < 1073741824) : vDiv (.int i) (.int j) c = .ok (.int (i / j)) c := by
  have h2 : j.natAbs < 1073741824 := by omega
  simp [vDiv, vI2, gDiv, h0, h2]
theorem mod_int (i j : Int) (c : Cv) (h0 : 0 < j) : vMod (.int i) (.int j) c = .ok (.int (i % j)) c := by simp [vMod, vI2, gMod, h0]
theorem mul_int (i j : Int) (c : Cv) (h : i.natAbs < 18446744073709551616 ∨ j.natAbs < 18446744073709551616) : vMulW (.int i) (.int j) c = .ok (.int (i * j)) c := by
  simp only [vMulW, vMul, gMul]
  rcases h with h | h <;> simp [h]
theorem at_get {α : Type} {xs : List α} {i : Nat} {x : α} (h : xs[i]? = some x) : atI xs (i : Int) = some x := by
  have hl : i < xs.length := (List.getElem?_eq_some_iff.mp h).1
  unfold atI L2.ixN
  rw [if_pos (by omega)]
  simp only [Int.toNat_natCast]
  rw [if_pos (by omega)]
  exact h
theorem at_last {α : Type} {xs : List α} {x : α} (h : xs.getLast? = some x) : atI xs (-1) = some x := by
  have hl : 0 < xs.length := by
    cases xs with
    | nil => simp at h
    | cons a r => simp
  rw [List.getLast?_eq_getElem?] at h
  unfold atI L2.ixN
  rw [if_neg (by omega)]
  rw [if_pos (by omega)]
  have e : ((-1 : Int) + (xs.length : Int)).toNat = xs.length - 1 := by omega
  simp only [e]
  exact h

/-! ### list comprehensions -/
/-- one turn: an item, or none -/
def lcS (t : Va → Option (List Va)) (is : List Nat) (tt : ST) (f : SE) (d : Va) (env : Ev) (c : Cv) : Re (Option Va) := match t d with
  | none => .stk
  | some es => match tt (setE env is (es.map .val)) c with
    | .ok true c1 => match f (setE env is (es.map .val)) c1 with
      | .ok v c2 => .ok (some v) c2
      | _ => .stk
    | .ok false c1 => .ok none c1
    | _ => .stk
section
variable {t : Va → Option (List Va)} {is vs : List Nat} {tt : ST} {f : SE} {env : Ev} {c : Cv}
theorem lcL_cons (d : Va) (ds : List Va) : lcL t is tt f (d :: ds) env c = (lcS t is tt f d env c).bind fun o c1 => (lcL t is tt f ds env c1).bind fun ys c2 => .ok (o.toList ++ ys) c2 := by
  rw [lcL]
  unfold lcS
  cases t d with
  | none => rfl
  | some es =>
    simp only []
    cases tt (setE env is (es.map .val)) c with
    | ok b c1 =>
      cases b with
      | true =>
        simp only []
        cases f (setE env is (es.map .val)) c1 with
        | ok v c2 => rfl
        | exn e c => rfl
        | stk => rfl
      | false =>
        simp only [bd_ok]
        cases lcL t is tt f ds env c1 <;> rfl
    | exn e c => rfl
    | stk => rfl
theorem lcL_pure {α : Type} (enc : α → Va) (g : α → Option Va) : ∀ (xs : List α), (∀ x ∈ xs, lcS t is tt f (enc x) env c = .ok (g x) c) → lcL t is tt f (xs.map enc) env c = .ok (xs.filterMap g) c
  | [], _ => rfl
  | x :: xs, h => by
    rw [List.map_cons, lcL_cons, h x (by simp), bd_ok, lcL_pure enc g xs fun y hy => h y (by simp [hy]), bd_ok]
    cases q : g x <;> simp [q]
/-- a comprehension without a test and with the cup left alone -/
theorem eLc_pure {α : Type} {fi : SI} (enc : α → Va) (g : α → Option Va) (xs : List α) {c1 : Cv} (hi : fi env c = .ok (xs.map enc) c1) (hl : xs.length ≤ L24) (ho : ownFree env vs = true) (h : ∀ x ∈ xs, lcS t is tt f (enc x) (wipeE env vs) c1 = .ok (g x) c1) :
    eLc fi t is vs tt f env c = .ok (.lst (xs.filterMap g)) c1 := by
  unfold eLc
  rw [hi, bd_ok, if_pos ⟨by simpa using hl, ho⟩, lcL_pure enc g xs h, bd_ok]
theorem eLc_map {α : Type} {fi : SI} (enc : α → Va) (g : α → Va) (xs : List α) {c1 : Cv} (hi : fi env c = .ok (xs.map enc) c1) (hl : xs.length ≤ L24) (ho : ownFree env vs = true) (h : ∀ x ∈ xs, lcS t is tt f (enc x) (wipeE env vs) c1 = .ok (some (g x)) c1) :
    eLc fi t is vs tt f env c = .ok (.lst (xs.map g)) c1 := by
  rw [eLc_pure enc (fun x => some (g x)) xs hi hl ho h]
  congr 2
  induction xs with
  | nil => rfl
  | cons x xs ih => simp
theorem lcS_yes {d : Va} {es : List Va} {v : Va} {c2 : Cv} (h1 : t d = some es) (h2 : f (setE env is (es.map .val)) c = .ok v c2) : lcS t is tYesS f d env c = .ok (some v) c2 := by
  simp only [lcS, h1, tYesS, h2]
theorem lcS_if {d : Va} {es : List Va} {v : Va} {b : Bool} (h1 : t d = some es) (h3 : tt (setE env is (es.map .val)) c = .ok b c) (h2 : b = true → f (setE env is (es.map .val)) c = .ok v c) : lcS t is tt f d env c = .ok (if b then some v else none) c := by
  cases b with
  | true => simp only [lcS, h1, h3, h2 rfl, if_true]
  | false => simp only [lcS, h1, h3]; rfl
end
/-! ### for: a state carried through -/
theorem forL_inv {t : Va → Option (List Va)} {is : List Nat} {body : SS} {α : Type} (enc : α → Va) (I : List α → Ev → Cv → Prop) (post : Rs → Prop) : ∀ (xs : List α) (env : Ev) (c : Cv), I xs env c →
    (∀ x r env c, I (x :: r) env c → ∃ es, t (enc x) = some es ∧ ((∃ env' c', (body (setE env is (es.map .val)) c = .nx env' c' ∨ body (setE env is (es.map .val)) c = .ct env' c') ∧ I r env' c') ∨ (∃ env' c', body (setE env is (es.map .val)) c = .bk env' c' ∧ post (.nx env' c')) ∨ ∃ d c', body (setE env is (es.map .val)) c = .rt d c' ∧ post (.rt d c'))) →
    (∀ env c, I [] env c → post (.nx env c)) → post (forL t is body (xs.map enc) env c)
  | [], env, c, h, _, hd => hd env c h
  | x :: r, env, c, h, hs, hd => by
    obtain ⟨es, e1, h1⟩ := hs x r env c h
    rw [List.map_cons, forL, e1]
    rcases h1 with ⟨env', c', e2 | e2, h2⟩ | ⟨env', c', e2, h2⟩ | ⟨d, c', e2, h2⟩
    · simp only [e2]; exact forL_inv enc I post r env' c' h2 hs hd
    · simp only [e2]; exact forL_inv enc I post r env' c' h2 hs hd
    · simp only [e2]; exact h2
    · simp only [e2]; exact h2
/-! ### slices, pairs -/
theorem cut_from {α : Type} (xs : List α) (k : Nat) : cutA xs (some (k : Int)) none = xs.drop k := by
  unfold cutA
  rw [HT.sIx_nat, HT.sIx_none]
  by_cases h : k ≤ xs.length
  · rw [Nat.min_eq_left h]
    apply List.take_of_length_le
    simp
  · rw [Nat.min_eq_right (by omega), List.drop_eq_nil_of_le (Nat.le_refl _), List.drop_eq_nil_of_le (by omega)]
    simp
theorem cut_to {α : Type} (xs : List α) (k : Nat) : cutA xs none (some (k : Int)) = xs.take k := by
  unfold cutA
  rw [HT.sIx_nat, HT.sIx_none]
  by_cases h : k ≤ xs.length
  · rw [Nat.min_eq_left h]; simp
  · rw [Nat.min_eq_right (by omega)]
    simp only [List.drop_zero, Nat.sub_zero]
    rw [List.take_of_length_le (Nat.le_refl _), List.take_of_length_le (by omega)]
theorem cut_init {α : Type} (xs : List α) : cutA xs none (some (-1)) = xs.dropLast := by
  unfold cutA
  rw [HT.sIx_none]
  have e : HT.sIx xs.length xs.length (some (-1)) = xs.length - 1 := by
    unfold HT.sIx
    simp only [show (-1 : Int) < 0 by decide, if_true]
    omega
  rw [e, List.dropLast_eq_take]
  simp
theorem zip_map {α β : Type} (f : α → Va) (g : β → Va) (xs : List α) (ys : List β) : zipA (xs.map f) (ys.map g) = (xs.zip ys).map fun p => .tup [f p.1, g p.2] := by
  unfold zipA
  rw [List.zipWith_map, List.zip, List.map_zipWith]
theorem zip_tup (ds es : List Va) : vZip (.tup ds) (.tup es) = some (zipA ds es) := rfl
theorem zip_lst (ds es : List Va) : vZip (.lst ds) (.lst es) = some (zipA ds es) := rfl
theorem t2 (a b : Va) : tT (tsC tN (tsC tN tsN)) (.tup [a, b]) = some [a, b] := rfl
def absI (x : Int) : Int := if x < 0 then -x else x
/-- neighbours -/
def nbs {α : Type} (xs : List α) : List (α × α) := xs.zip (xs.drop 1)
theorem zip_nbs {α : Type} (f : α → Va) (xs : List α) : zipA (xs.map f) ((xs.map f).drop 1) = (nbs xs).map fun p => .tup [f p.1, f p.2] := by
  rw [← List.map_drop, zip_map]; rfl
theorem intsOf_some : ∀ {ds : List Va}, (∀ d ∈ ds, ∃ i, d = .int i) → ∃ ns : List Int, ds = ns.map .int
  | [], _ => ⟨[], rfl⟩
  | d :: r, h => by
    obtain ⟨i, e⟩ := h d (by simp)
    obtain ⟨ns, e2⟩ := intsOf_some (ds := r) fun x hx => h x (by simp [hx])
    exact ⟨i :: ns, by rw [e, e2]; rfl⟩
theorem max_ints (n : Int) (r : List Int) (c : Cv) : vMax (.lst ((n :: r).map .int)) c = .ok (.int (r.foldl max n)) c := by simp only [vMax, vInts, intsOf_map, Option.bind_some, zMax]
theorem min_ints (n : Int) (r : List Int) (c : Cv) : vMin (.lst ((n :: r).map .int)) c = .ok (.int (r.foldl min n)) c := by simp only [vMin, vInts, intsOf_map, Option.bind_some, zMin]
/-! ### range -/
theorem okR_of {i : Int} (h0 : 0 ≤ i) (h : i ≤ 100000) : okR i = true := by
  unfold okR
  exact decide_eq_true (Nat.lt_of_le_of_lt (m := 100000) (by omega) (by decide))
theorem rng {a : Int} {m : Nat} (h : a = m) (hm : m ≤ 1000) (fe : SE) (env : Ev) (c : Cv) (e : fe env c = .ok (.int a) c) : iRange1 fe env c = .ok ((List.range m).map fun (t : Nat) => Va.int (t : Int)) c := by
  subst h
  have ok := okR_of (i := (m : Int)) (by omega) (by omega)
  unfold iRange1
  rw [e, bd_ok]
  show (if okR (m : Int) = true then Re.ok (upI 0 ((m : Int)).toNat) c else .stk) = _
  rw [if_pos ok]
  simp [upI]
end G

set_option Elab.async false
set_option linter.all false
set_option maxRecDepth 100000
set_option maxHeartbeats 0
namespace G
set_option autoImplicit false
open PySem PySem.Spec PyProof.Rows L2
def top (i : Nat) : Stmt := PySem.Challenge.pw_strongroom_k46_whole_rows_of_copies_betw.main.body.getD i (.Pass ⟨0, 0, 0, 0⟩)
def supT : List (Str × Str × Bool) := [("InvalidKey", "InvalidKey", true), ("InvalidKey", "InvalidMake", false), ("InvalidKey", "InvalidNumber", false), ("InvalidKey", "PinsError", true), ("InvalidKey", "TooMany", false), ("InvalidMake", "InvalidKey", false), ("InvalidMake", "InvalidMake", true), ("InvalidMake", "InvalidNumber", false), ("InvalidMake", "PinsError", true), ("InvalidMake", "TooMany", false), ("InvalidNumber", "InvalidKey", false), ("InvalidNumber", "InvalidMake", false), ("InvalidNumber", "InvalidNumber", true), ("InvalidNumber", "PinsError", true), ("InvalidNumber", "TooMany", false)]
def sup : Sup := supOf supT
structure Fx (K : PySem.W.Frag) (mg : Str → Option Value) where
  a_is_whole : Addr
  fd_is_whole : FuncData
  a_fits_whole : Addr
  fd_fits_whole : FuncData
  a_is_tuple_of : Addr
  fd_is_tuple_of : FuncData
  a_fits_make : Addr
  fd_fits_make : FuncData
  a_fits_cuts : Addr
  fd_fits_cuts : FuncData
  a_fits_key : Addr
  fd_fits_key : FuncData
  a_need_make : Addr
  fd_need_make : FuncData
  a_need_key : Addr
  fd_need_key : FuncData
  a_need_fault : Addr
  fd_need_fault : FuncData
  a_need_copies : Addr
  fd_need_copies : FuncData
  a_need_two : Addr
  fd_need_two : FuncData
  a_widest : Addr
  fd_widest : FuncData
  a_copies_for : Addr
  fd_copies_for : FuncData
  a_between : Addr
  fd_between : FuncData
  a_towards : Addr
  fd_towards : FuncData
  a_fits_row : Addr
  fd_fits_row : FuncData
  a_copies_needed : Addr
  fd_copies_needed : FuncData
  a_copy_row : Addr
  fd_copy_row : FuncData
  a_is_copy_row : Addr
  fd_is_copy_row : FuncData
  a_common_copy : Addr
  fd_common_copy : FuncData
  a_is_common_copy : Addr
  fd_is_common_copy : FuncData
  a__law_cup : Addr
  fd__law_cup : FuncData
  a__law_roll : Addr
  fd__law_roll : FuncData
  a__law_some : Addr
  fd__law_some : FuncData
  a__law_same : Addr
  fd__law_same : FuncData
  a__law_key : Addr
  fd__law_key : FuncData
  a__law_is_key : Addr
  fd__law_is_key : FuncData
  a__law_far : Addr
  fd__law_far : FuncData
  a__law_make : Addr
  fd__law_make : FuncData
  a__law_towards : Addr
  fd__law_towards : FuncData
  a__law_is_row : Addr
  fd__law_is_row : FuncData
  a__law_right : Addr
  fd__law_right : FuncData
  a__law_common_right : Addr
  fd__law_common_right : FuncData
  a__law_word : Addr
  fd__law_word : FuncData
  a_law : Addr
  fd_law : FuncData
  c_law : Addr
  P_law : Addr
  C_InvalidKey : Addr
  C_InvalidMake : Addr
  C_InvalidNumber : Addr
  C_PinsError : Addr
  C_TooMany : Addr
  t_COPIES : Tok
  t_FAULT : Tok
  t_HEIGHTS : Tok
  t_PLACES : Tok
  t_STEP : Tok
  d_is_whole : Df K mg "is_whole" (top 10) ["value"] a_is_whole fd_is_whole
  d_fits_whole : Df K mg "fits_whole" (top 11) ["value", "low", "high"] a_fits_whole fd_fits_whole
  d_is_tuple_of : Df K mg "is_tuple_of" (top 12) ["value", "least", "most"] a_is_tuple_of fd_is_tuple_of
  d_fits_make : Df K mg "fits_make" (top 13) ["value"] a_fits_make fd_fits_make
  d_fits_cuts : Df K mg "fits_cuts" (top 14) ["make", "value"] a_fits_cuts fd_fits_cuts
  d_fits_key : Df K mg "fits_key" (top 15) ["make", "value"] a_fits_key fd_fits_key
  d_need_make : Df K mg "need_make" (top 16) ["value"] a_need_make fd_need_make
  d_need_key : Df K mg "need_key" (top 17) ["make", "value"] a_need_key fd_need_key
  d_need_fault : Df K mg "need_fault" (top 21) ["value"] a_need_fault fd_need_fault
  d_need_copies : Df K mg "need_copies" (top 22) ["value"] a_need_copies fd_need_copies
  d_need_two : Df K mg "need_two" (top 23) ["make", "key", "other", "fault"] a_need_two fd_need_two
  d_widest : Df K mg "widest" (top 24) ["key", "other"] a_widest fd_widest
  d_copies_for : Df K mg "copies_for" (top 25) ["far", "fault"] a_copies_for fd_copies_for
  d_between : Df K mg "between" (top 26) ["low", "value", "high"] a_between fd_between
  d_towards : Df K mg "towards" (top 27) ["key", "other", "far"] a_towards fd_towards
  d_fits_row : Df K mg "fits_row" (top 28) ["make", "key", "other", "fault", "value"] a_fits_row fd_fits_row
  d_copies_needed : Df K mg "copies_needed" (top 29) ["make", "key", "other", "fault"] a_copies_needed fd_copies_needed
  d_copy_row : Df K mg "copy_row" (top 30) ["make", "key", "other", "fault"] a_copy_row fd_copy_row
  d_is_copy_row : Df K mg "is_copy_row" (top 31) ["make", "key", "other", "fault", "value"] a_is_copy_row fd_is_copy_row
  d_common_copy : Df K mg "common_copy" (top 32) ["make", "key", "other", "fault", "many"] a_common_copy fd_common_copy
  d_is_common_copy : Df K mg "is_common_copy" (top 33) ["make", "key", "other", "fault", "many", "value"] a_is_common_copy fd_is_common_copy
  d__law_cup : Df K mg "_law_cup" (top 35) ["script"] a__law_cup fd__law_cup
  d__law_roll : Df K mg "_law_roll" (top 36) ["cup", "many"] a__law_roll fd__law_roll
  d__law_some : Df K mg "_law_some" (top 37) ["cup", "things"] a__law_some fd__law_some
  d__law_same : Df K mg "_law_same" (top 38) ["told", "due"] a__law_same fd__law_same
  d__law_key : Df K mg "_law_key" (top 39) ["cup", "make"] a__law_key fd__law_key
  d__law_is_key : Df K mg "_law_is_key" (top 40) ["make", "value"] a__law_is_key fd__law_is_key
  d__law_far : Df K mg "_law_far" (top 41) ["key", "other"] a__law_far fd__law_far
  d__law_make : Df K mg "_law_make" (top 42) ["cup"] a__law_make fd__law_make
  d__law_towards : Df K mg "_law_towards" (top 43) ["key", "other", "far"] a__law_towards fd__law_towards
  d__law_is_row : Df K mg "_law_is_row" (top 44) ["make", "key", "other", "fault", "value"] a__law_is_row fd__law_is_row
  d__law_right : Df K mg "_law_right" (top 45) ["cup", "make", "key", "other", "fault"] a__law_right fd__law_right
  d__law_common_right : Df K mg "_law_common_right" (top 46) ["cup", "make", "key", "other", "fault"] a__law_common_right fd__law_common_right
  d__law_word : Df K mg "_law_word" (top 47) ["call"] a__law_word fd__law_word
  d_law : Df K mg "law" (top 48) ["script"] a_law fd_law
  cd_law : fd_law.code = .ref c_law
  b_abs : mg "abs" = none
  b_all : mg "all" = none
  b_bool : mg "bool" = none
  b_int : mg "int" = none
  b_isinstance : mg "isinstance" = none
  b_len : mg "len" = none
  b_list : mg "list" = none
  b_max : mg "max" = none
  b_min : mg "min" = none
  b_range : mg "range" = none
  b_str : mg "str" = none
  b_tuple : mg "tuple" = none
  b_zip : mg "zip" = none
  g_COPIES : mg "COPIES" = some (.int 100 t_COPIES)
  g_FAULT : mg "FAULT" = some (.int 9 t_FAULT)
  g_HEIGHTS : mg "HEIGHTS" = some (.int 10 t_HEIGHTS)
  g_PLACES : mg "PLACES" = some (.int 8 t_PLACES)
  g_STEP : mg "STEP" = some (.int 9 t_STEP)
  e_InvalidKey : OwnXK K mg "InvalidKey" C_InvalidKey
  e_InvalidMake : OwnXK K mg "InvalidMake" C_InvalidMake
  e_InvalidNumber : OwnXK K mg "InvalidNumber" C_InvalidNumber
  x_InvalidKey : MgC mg "InvalidKey" C_InvalidKey
  x_InvalidMake : MgC mg "InvalidMake" C_InvalidMake
  x_InvalidNumber : MgC mg "InvalidNumber" C_InvalidNumber
  x_PinsError : MgC mg "PinsError" C_PinsError
  x_TooMany : MgC mg "TooMany" C_TooMany
  sup : SupOkK K mg sup
def Fx.Tb {K : PySem.W.Frag} {mg : Str → Option Value} (Z : Fx K mg) : List (Addr × Str) := [(Z.P_law, ("law" ++ ".<locals>.") ++ "<lambda>")]
theorem Fx.mem_law {K : PySem.W.Frag} {mg : Str → Option Value} (Z : Fx K mg) : (Z.P_law, (("law" : Str) ++ ".<locals>.") ++ "<lambda>") ∈ Z.Tb := by simp [Fx.Tb]
theorem Fx.uniq_law {K : PySem.W.Frag} {mg : Str → Option Value} (Z : Fx K mg) : ∀ p ∈ Z.Tb, p.1 = Z.P_law → p.2 = (("law" : Str) ++ ".<locals>.") ++ "<lambda>" := by
  intro p hp e
  simp only [Fx.Tb, List.mem_cons, List.not_mem_nil, or_false] at hp
  rcases hp with rfl <;> first | rfl | (exfalso; first | trivial)
structure Tq {K : PySem.W.Frag} {mg : Str → Option Value} (Z : Fx K mg) (base : Heap) : Prop where
  tb_law : LamX.TabB base mg Z.c_law Z.P_law
def B_is_whole : SS := (sRet (eAnd (eB1 (eVarB 0) (vIsi .int)) (eNot (eB1 (eVarB 0) (vIsi .bool)))))
def F_is_whole : List Va → Cv → Re Va := runF 1 false B_is_whole
theorem ok_is_whole {P : Program} {w : World} {K : PySem.W.Frag} {mg : Str → Option Value} {base : Heap} (Z : Fx K mg) (TB : Tq Z base) : FnA P w K mg base (L2N.CX P w) 1 "is_whole" Z.a_is_whole Z.fd_is_whole ["value"] (spG ⟨K, mg, Z.Tb, none, none, none⟩ 1 false F_is_whole) :=
  fn_A Z.d_is_whole (N := ["value"]) (k := 0) (fb := B_is_whole) (by decide +kernel) (by decide) fun cdv A outer s H E hr j => (rss_one (rs_ret (re_and (re_isi .int (rb_var 0) Z.b_isinstance Z.b_int) (re_one (re_not (re_isi .bool (rb_var 0) Z.b_isinstance Z.b_bool))))))
def B_fits_whole : SS := (sRet (eAnd (callS F_is_whole (aCons (eVar 0) aNil)) (eChain (eVarB 1) (eVarB 0) (eVarB 2) vLe vLe)))
def F_fits_whole : List Va → Cv → Re Va := runF 3 false B_fits_whole
theorem ok_fits_whole {P : Program} {w : World} {K : PySem.W.Frag} {mg : Str → Option Value} {base : Heap} (Z : Fx K mg) (TB : Tq Z base) : FnA P w K mg base (L2N.CX P w) 2 "fits_whole" Z.a_fits_whole Z.fd_fits_whole ["value", "low", "high"] (spG ⟨K, mg, Z.Tb, none, none, none⟩ 3 false F_fits_whole) :=
  fn_A Z.d_fits_whole (N := ["value", "low", "high"]) (k := 1) (fb := B_fits_whole) (by decide +kernel) (by decide) fun cdv A outer s H E hr j => (rss_one (rs_ret (re_and (re_call j (FnA.mono (ok_is_whole Z TB) (by omega)) hr (ha := (ra_cons (re_var 0) ra_nil)) (hl := (alen_cons alen_nil))) (re_one (re_chain (op_leP j) ov_le (op_leP j) ov_le (rb_var 1) (rb_var 0) (rb_var 2))))))
def B_is_tuple_of : SS := (sRet (eAnd (eB1 (eVarB 0) (vIsi .tuple)) (eChain (eVarB 1) (eB1 (eVarB 0) vLen) (eVarB 2) vLe vLe)))
def F_is_tuple_of : List Va → Cv → Re Va := runF 3 false B_is_tuple_of
theorem ok_is_tuple_of {P : Program} {w : World} {K : PySem.W.Frag} {mg : Str → Option Value} {base : Heap} (Z : Fx K mg) (TB : Tq Z base) : FnA P w K mg base (L2N.CX P w) 1 "is_tuple_of" Z.a_is_tuple_of Z.fd_is_tuple_of ["value", "least", "most"] (spG ⟨K, mg, Z.Tb, none, none, none⟩ 3 false F_is_tuple_of) :=
  fn_A Z.d_is_tuple_of (N := ["value", "least", "most"]) (k := 0) (fb := B_is_tuple_of) (by decide +kernel) (by decide) fun cdv A outer s H E hr j => (rss_one (rs_ret (re_and (re_isi .tuple (rb_var 0) Z.b_isinstance Z.b_tuple) (re_one (re_chain (op_leP j) ov_le (op_leP j) ov_le (rb_var 1) (RE.rb (re_b1 call_lenV uc_len (rb_var 0) Z.b_len)) (rb_var 2))))))
def B_fits_make : SS := (sSeq (sIf (tOr (tNot (tV (callS F_is_tuple_of (aCons (eVar 0) (aCons (eK (.int 3)) (aCons (eK (.int 3)) aNil)))))) (tNot (tV (callS F_fits_whole (aCons (eB2 (eVarB 0) (eK (.int 0)) vIx) (aCons (eK (.int 1)) (aCons (eK (.int 8)) aNil))))))) (sRet (eK (.bl false))) sNext)
  (sRet (eAnd (callS F_fits_whole (aCons (eB2 (eVarB 0) (eK (.int 1)) vIx) (aCons (eK (.int 2)) (aCons (eK (.int 10)) aNil)))) (callS F_fits_whole (aCons (eB2 (eVarB 0) (eK (.int 2)) vIx) (aCons (eK (.int 1)) (aCons (eK (.int 9)) aNil)))))))
def F_fits_make : List Va → Cv → Re Va := runF 1 false B_fits_make
theorem ok_fits_make {P : Program} {w : World} {K : PySem.W.Frag} {mg : Str → Option Value} {base : Heap} (Z : Fx K mg) (TB : Tq Z base) : FnA P w K mg base (L2N.CX P w) 3 "fits_make" Z.a_fits_make Z.fd_fits_make ["value"] (spG ⟨K, mg, Z.Tb, none, none, none⟩ 1 false F_fits_make) :=
  fn_A Z.d_fits_make (N := ["value"]) (k := 2) (fb := B_fits_make) (by decide +kernel) (by decide) fun cdv A outer s H E hr j => (rss_cons (rs_if (RW.rt (rw_or (rt_not (rt_val (re_call j (FnA.mono (ok_is_tuple_of Z TB) (by omega)) hr (ha := (ra_cons (re_var 0) (ra_cons re_int (ra_cons re_int ra_nil)))) (hl := (alen_cons (alen_cons (alen_cons alen_nil))))))) (rw_or1 (rt_not (rt_val (re_call j (FnA.mono (ok_fits_whole Z TB) (by omega)) hr (ha := (ra_cons (re_ix j (rb_var 0) (RE.rb re_int)) (ra_cons re_int (ra_cons (re_gint Z.g_PLACES) ra_nil)))) (hl := (alen_cons (alen_cons (alen_cons alen_nil)))))))))) (rss_one (rs_ret re_bl)) rss_nil)
  (rss_one (rs_ret (re_and (re_call j (FnA.mono (ok_fits_whole Z TB) (by omega)) hr (ha := (ra_cons (re_ix j (rb_var 0) (RE.rb re_int)) (ra_cons re_int (ra_cons (re_gint Z.g_HEIGHTS) ra_nil)))) (hl := (alen_cons (alen_cons (alen_cons alen_nil))))) (re_one (re_call j (FnA.mono (ok_fits_whole Z TB) (by omega)) hr (ha := (ra_cons (re_ix j (rb_var 0) (RE.rb re_int)) (ra_cons re_int (ra_cons (re_gint Z.g_STEP) ra_nil)))) (hl := (alen_cons (alen_cons (alen_cons alen_nil))))))))))
def C_fits_cuts_1 : SE := (eLc (iVal (eVar 1)) tN [2] [2] tYesS (callS F_fits_whole (aCons (eVar 2) (aCons (eK (.int 0)) (aCons (eB2 (eB2 (eVarB 0) (eK (.int 1)) vIx) (eK (.int 1)) vSub) aNil)))))
def B_fits_cuts : SS := (sSeq (sIf (tNot (tV (callS F_is_tuple_of (aCons (eVar 1) (aCons (eB2 (eVarB 0) (eK (.int 0)) vIx) (aCons (eB2 (eVarB 0) (eK (.int 0)) vIx) aNil)))))) (sRet (eK (.bl false))) sNext)
  (sRet (eB1 C_fits_cuts_1 vAll)))
def F_fits_cuts : List Va → Cv → Re Va := runF 3 false B_fits_cuts
theorem ok_fits_cuts {P : Program} {w : World} {K : PySem.W.Frag} {mg : Str → Option Value} {base : Heap} (Z : Fx K mg) (TB : Tq Z base) : FnA P w K mg base (L2N.CX P w) 3 "fits_cuts" Z.a_fits_cuts Z.fd_fits_cuts ["make", "value"] (spG ⟨K, mg, Z.Tb, none, none, none⟩ 2 false F_fits_cuts) :=
  fn_A Z.d_fits_cuts (N := ["make", "value", "one"]) (k := 2) (fb := B_fits_cuts) (by decide +kernel) (by decide) fun cdv A outer s H E hr j => (rss_cons (rs_if (rt_not (rt_val (re_call j (FnA.mono (ok_is_tuple_of Z TB) (by omega)) hr (ha := (ra_cons (re_var 1) (ra_cons (re_ix j (rb_var 0) (RE.rb re_int)) (ra_cons (re_ix j (rb_var 0) (RE.rb re_int)) ra_nil)))) (hl := (alen_cons (alen_cons (alen_cons alen_nil))))))) (rss_one (rs_ret re_bl)) rss_nil)
  (rss_one (rs_ret (re_b1 (cr_all rfl) uc_bls (RE.rb (RF.re (rf_lc [("one", 2)] j (ri_val (re_var 1)) (by kernel_rfl) (fun s H C cl fp j1 => (rg_name j1.nd 2)) (fun s H C cl fp j1 => rts_nil) (fun s H C cl fp j1 => (re_call j1 (FnA.mono (ok_fits_whole Z TB) (by omega)) hr (ha := (ra_cons (re_var 2) (ra_cons re_int (ra_cons (re_bin op_subV ov_i2 (RE.rb (re_ix j1 (rb_var 0) (RE.rb re_int))) (RE.rb re_int)) ra_nil)))) (hl := (alen_cons (alen_cons (alen_cons alen_nil))))))))) Z.b_all))))
def C_fits_key_1 : SE := (eLc (iZip (eVar 1) (eSl (eVarB 1) (oSome (eK (.int 1))) oNone vSl)) (tT (tsC tN (tsC tN tsN))) [2, 3] [2, 3] tYesS (eB2 (eB1 (eB2 (eVarB 2) (eVarB 3) vSub) vAbs) (eB2 (eVarB 0) (eK (.int 2)) vIx) vLe))
def B_fits_key : SS := (sRet (eAnd (callS F_fits_cuts (aCons (eVar 0) (aCons (eVar 1) aNil))) (eB1 C_fits_key_1 vAll)))
def F_fits_key : List Va → Cv → Re Va := runF 4 false B_fits_key
theorem ok_fits_key {P : Program} {w : World} {K : PySem.W.Frag} {mg : Str → Option Value} {base : Heap} (Z : Fx K mg) (TB : Tq Z base) : FnA P w K mg base (L2N.CX P w) 4 "fits_key" Z.a_fits_key Z.fd_fits_key ["make", "value"] (spG ⟨K, mg, Z.Tb, none, none, none⟩ 2 false F_fits_key) :=
  fn_A Z.d_fits_key (N := ["make", "value", "one", "other"]) (k := 3) (fb := B_fits_key) (by decide +kernel) (by decide) fun cdv A outer s H E hr j => (rss_one (rs_ret (re_and (re_call j (FnA.mono (ok_fits_cuts Z TB) (by omega)) hr (ha := (ra_cons (re_var 0) (ra_cons (re_var 1) ra_nil))) (hl := (alen_cons (alen_cons alen_nil)))) (re_one (re_b1 (cr_all rfl) uc_bls (RE.rb (RF.re (rf_lc [("one", 2), ("other", 3)] j (ri_zip (re_var 1) (re_sl (rb_var 1) (ro_some re_int) ro_none) Z.b_zip) (by kernel_rfl) (fun s H C cl fp j1 => (rg_tup (rgs_cons (rg_name j1.nd 2) (rgs_cons (rg_name j1.nd 3) rgs_nil)) (hl := (tsC_len (tsC_len (fun _ _ h => tsN_len h)))))) (fun s H C cl fp j1 => rts_nil) (fun s H C cl fp j1 => (re_cmp (op_leP j1) ov_le (RE.rb (re_b1 call_abs uc_abs (RE.rb (re_bin op_subV ov_i2 (rb_var 2) (rb_var 3))) Z.b_abs)) (RE.rb (re_ix j1 (rb_var 0) (RE.rb re_int))) rfl))))) Z.b_all)))))
def B_need_make : SS := (sIf (tNot (tV (callS F_fits_make (aCons (eVar 0) aNil)))) (sRaise "InvalidMake") sNext)
def F_need_make : List Va → Cv → Re Va := runF 1 false B_need_make
theorem ok_need_make {P : Program} {w : World} {K : PySem.W.Frag} {mg : Str → Option Value} {base : Heap} (Z : Fx K mg) (TB : Tq Z base) : FnA P w K mg base (L2N.CX P w) 4 "need_make" Z.a_need_make Z.fd_need_make ["value"] (spG ⟨K, mg, Z.Tb, none, none, none⟩ 1 false F_need_make) :=
  fn_A Z.d_need_make (N := ["value"]) (k := 3) (fb := B_need_make) (by decide +kernel) (by decide) fun cdv A outer s H E hr j => (rss_one (rs_if (rt_not (rt_val (re_call j (FnA.mono (ok_fits_make Z TB) (by omega)) hr (ha := (ra_cons (re_var 0) ra_nil)) (hl := (alen_cons alen_nil))))) (rss_one (rs_raise j Z.e_InvalidMake)) rss_nil))
def B_need_key : SS := (sIf (tNot (tV (callS F_fits_key (aCons (eVar 0) (aCons (eVar 1) aNil))))) (sRaise "InvalidKey") sNext)
def F_need_key : List Va → Cv → Re Va := runF 2 false B_need_key
theorem ok_need_key {P : Program} {w : World} {K : PySem.W.Frag} {mg : Str → Option Value} {base : Heap} (Z : Fx K mg) (TB : Tq Z base) : FnA P w K mg base (L2N.CX P w) 5 "need_key" Z.a_need_key Z.fd_need_key ["make", "value"] (spG ⟨K, mg, Z.Tb, none, none, none⟩ 2 false F_need_key) :=
  fn_A Z.d_need_key (N := ["make", "value"]) (k := 4) (fb := B_need_key) (by decide +kernel) (by decide) fun cdv A outer s H E hr j => (rss_one (rs_if (rt_not (rt_val (re_call j (FnA.mono (ok_fits_key Z TB) (by omega)) hr (ha := (ra_cons (re_var 0) (ra_cons (re_var 1) ra_nil))) (hl := (alen_cons (alen_cons alen_nil)))))) (rss_one (rs_raise j Z.e_InvalidKey)) rss_nil))
def B_need_fault : SS := (sIf (tNot (tV (callS F_fits_whole (aCons (eVar 0) (aCons (eK (.int 0)) (aCons (eK (.int 9)) aNil)))))) (sRaise "InvalidNumber") sNext)
def F_need_fault : List Va → Cv → Re Va := runF 1 false B_need_fault
theorem ok_need_fault {P : Program} {w : World} {K : PySem.W.Frag} {mg : Str → Option Value} {base : Heap} (Z : Fx K mg) (TB : Tq Z base) : FnA P w K mg base (L2N.CX P w) 3 "need_fault" Z.a_need_fault Z.fd_need_fault ["value"] (spG ⟨K, mg, Z.Tb, none, none, none⟩ 1 false F_need_fault) :=
  fn_A Z.d_need_fault (N := ["value"]) (k := 2) (fb := B_need_fault) (by decide +kernel) (by decide) fun cdv A outer s H E hr j => (rss_one (rs_if (rt_not (rt_val (re_call j (FnA.mono (ok_fits_whole Z TB) (by omega)) hr (ha := (ra_cons (re_var 0) (ra_cons re_int (ra_cons (re_gint Z.g_FAULT) ra_nil)))) (hl := (alen_cons (alen_cons (alen_cons alen_nil))))))) (rss_one (rs_raise j Z.e_InvalidNumber)) rss_nil))
def B_need_copies : SS := (sIf (tNot (tV (callS F_fits_whole (aCons (eVar 0) (aCons (eK (.int 0)) (aCons (eK (.int 100)) aNil)))))) (sRaise "InvalidNumber") sNext)
def F_need_copies : List Va → Cv → Re Va := runF 1 false B_need_copies
theorem ok_need_copies {P : Program} {w : World} {K : PySem.W.Frag} {mg : Str → Option Value} {base : Heap} (Z : Fx K mg) (TB : Tq Z base) : FnA P w K mg base (L2N.CX P w) 3 "need_copies" Z.a_need_copies Z.fd_need_copies ["value"] (spG ⟨K, mg, Z.Tb, none, none, none⟩ 1 false F_need_copies) :=
  fn_A Z.d_need_copies (N := ["value"]) (k := 2) (fb := B_need_copies) (by decide +kernel) (by decide) fun cdv A outer s H E hr j => (rss_one (rs_if (rt_not (rt_val (re_call j (FnA.mono (ok_fits_whole Z TB) (by omega)) hr (ha := (ra_cons (re_var 0) (ra_cons re_int (ra_cons (re_gint Z.g_COPIES) ra_nil)))) (hl := (alen_cons (alen_cons (alen_cons alen_nil))))))) (rss_one (rs_raise j Z.e_InvalidNumber)) rss_nil))
def B_need_two : SS := (sSeq (sDrop (callS F_need_make (aCons (eVar 0) aNil)))
  (sSeq (sDrop (callS F_need_key (aCons (eVar 0) (aCons (eVar 1) aNil))))
  (sSeq (sDrop (callS F_need_key (aCons (eVar 0) (aCons (eVar 2) aNil))))
  (sDrop (callS F_need_fault (aCons (eVar 3) aNil))))))
def F_need_two : List Va → Cv → Re Va := runF 4 false B_need_two
theorem ok_need_two {P : Program} {w : World} {K : PySem.W.Frag} {mg : Str → Option Value} {base : Heap} (Z : Fx K mg) (TB : Tq Z base) : FnA P w K mg base (L2N.CX P w) 6 "need_two" Z.a_need_two Z.fd_need_two ["make", "key", "other", "fault"] (spG ⟨K, mg, Z.Tb, none, none, none⟩ 4 false F_need_two) :=
  fn_A Z.d_need_two (N := ["make", "key", "other", "fault"]) (k := 5) (fb := B_need_two) (by decide +kernel) (by decide) fun cdv A outer s H E hr j => (rss_cons (rs_drop (re_call j (FnA.mono (ok_need_make Z TB) (by omega)) hr (ha := (ra_cons (re_var 0) ra_nil)) (hl := (alen_cons alen_nil))))
  (rss_cons (rs_drop (re_call j (FnA.mono (ok_need_key Z TB) (by omega)) hr (ha := (ra_cons (re_var 0) (ra_cons (re_var 1) ra_nil))) (hl := (alen_cons (alen_cons alen_nil)))))
  (rss_cons (rs_drop (re_call j (FnA.mono (ok_need_key Z TB) (by omega)) hr (ha := (ra_cons (re_var 0) (ra_cons (re_var 2) ra_nil))) (hl := (alen_cons (alen_cons alen_nil)))))
  (rss_one (rs_drop (re_call j (FnA.mono (ok_need_fault Z TB) (by omega)) hr (ha := (ra_cons (re_var 3) ra_nil)) (hl := (alen_cons alen_nil))))))))
def C_widest_1 : SE := (eLc (iZip (eVar 0) (eVar 1)) (tT (tsC tN (tsC tN tsN))) [2, 3] [2, 3] tYesS (eB1 (eB2 (eVarB 2) (eVarB 3) vSub) vAbs))
def B_widest : SS := (sRet (eB1 C_widest_1 vMax))
def F_widest : List Va → Cv → Re Va := runF 4 false B_widest
theorem ok_widest {P : Program} {w : World} {K : PySem.W.Frag} {mg : Str → Option Value} {base : Heap} (Z : Fx K mg) (TB : Tq Z base) : FnA P w K mg base (L2N.CX P w) 1 "widest" Z.a_widest Z.fd_widest ["key", "other"] (spG ⟨K, mg, Z.Tb, none, none, none⟩ 2 false F_widest) :=
  fn_A Z.d_widest (N := ["key", "other", "one", "two"]) (k := 0) (fb := B_widest) (by decide +kernel) (by decide) fun cdv A outer s H E hr j => (rss_one (rs_ret (re_b1 (cr_max rfl) uc_max (RE.rb (RF.re (rf_lc [("one", 2), ("two", 3)] j (ri_zip (re_var 0) (re_var 1) Z.b_zip) (by kernel_rfl) (fun s H C cl fp j1 => (rg_tup (rgs_cons (rg_name j1.nd 2) (rgs_cons (rg_name j1.nd 3) rgs_nil)) (hl := (tsC_len (tsC_len (fun _ _ h => tsN_len h)))))) (fun s H C cl fp j1 => rts_nil) (fun s H C cl fp j1 => (re_b1 call_abs uc_abs (RE.rb (re_bin op_subV ov_i2 (rb_var 2) (rb_var 3))) Z.b_abs))))) Z.b_max)))
def B_copies_for : SS := (sSeq (sIf (tV (eB2 (eVarB 0) (eK (.int 0)) vEq)) (sRet (eK (.int 0))) sNext)
  (sRet (eIf (tV (eB2 (eVarB 1) (eK (.int 0)) vGt)) (eB2 (eB2 (eB2 (eVarB 0) (eVarB 1) vAdd) (eK (.int 1)) vSub) (eVarB 1) vDiv) (eK .non))))
def F_copies_for : List Va → Cv → Re Va := runF 2 false B_copies_for
theorem ok_copies_for {P : Program} {w : World} {K : PySem.W.Frag} {mg : Str → Option Value} {base : Heap} (Z : Fx K mg) (TB : Tq Z base) : FnA P w K mg base (L2N.CX P w) 1 "copies_for" Z.a_copies_for Z.fd_copies_for ["far", "fault"] (spG ⟨K, mg, Z.Tb, none, none, none⟩ 2 false F_copies_for) :=
  fn_A Z.d_copies_for (N := ["far", "fault"]) (k := 0) (fb := B_copies_for) (by decide +kernel) (by decide) fun cdv A outer s H E hr j => (rss_cons (rs_if (rt_cmp (op_eqP j) ov_eq (rb_var 0) (RE.rb re_int) rfl) (rss_one (rs_ret re_int)) rss_nil)
  (rss_one (rs_ret (re_if (rt_cmp (op_gtP j) ov_gt (rb_var 1) (RE.rb re_int) rfl) (re_bin op_divV ov_i2 (RE.rb (re_bin op_subV ov_i2 (RE.rb (re_bin op_addV ov_add (rb_var 0) (rb_var 1))) (RE.rb re_int))) (rb_var 1)) re_non))))
def B_between : SS := (sRet (eB2 (eVarB 0) (eB2 (eVarB 1) (eVarB 2) vMin2) vMax2))
def F_between : List Va → Cv → Re Va := runF 3 false B_between
theorem ok_between {P : Program} {w : World} {K : PySem.W.Frag} {mg : Str → Option Value} {base : Heap} (Z : Fx K mg) (TB : Tq Z base) : FnA P w K mg base (L2N.CX P w) 1 "between" Z.a_between Z.fd_between ["low", "value", "high"] (spG ⟨K, mg, Z.Tb, none, none, none⟩ 3 false F_between) :=
  fn_A Z.d_between (N := ["low", "value", "high"]) (k := 0) (fb := B_between) (by decide +kernel) (by decide) fun cdv A outer s H E hr j => (rss_one (rs_ret (re_b2 (call_max2 rfl) ov_max2 (rb_var 0) (RE.rb (re_b2 (call_min2 rfl) ov_min2 (rb_var 1) (rb_var 2) Z.b_min)) Z.b_max)))
def C_towards_1 : SE := (eLc (iZip (eVar 0) (eVar 1)) (tT (tsC tN (tsC tN tsN))) [3, 4] [3, 4] tYesS (callS F_between (aCons (eB2 (eVarB 3) (eVarB 2) vSub) (aCons (eVar 4) (aCons (eB2 (eVarB 3) (eVarB 2) vAdd) aNil)))))
def B_towards : SS := (sRet (eB1 C_towards_1 vTup))
def F_towards : List Va → Cv → Re Va := runF 5 false B_towards
theorem ok_towards {P : Program} {w : World} {K : PySem.W.Frag} {mg : Str → Option Value} {base : Heap} (Z : Fx K mg) (TB : Tq Z base) : FnA P w K mg base (L2N.CX P w) 2 "towards" Z.a_towards Z.fd_towards ["key", "other", "far"] (spG ⟨K, mg, Z.Tb, none, none, none⟩ 3 false F_towards) :=
  fn_A Z.d_towards (N := ["key", "other", "far", "one", "two"]) (k := 1) (fb := B_towards) (by decide +kernel) (by decide) fun cdv A outer s H E hr j => (rss_one (rs_ret (re_t1 call_tuple_of uc_tup (RE.rb (RF.re (rf_lc [("one", 3), ("two", 4)] j (ri_zip (re_var 0) (re_var 1) Z.b_zip) (by kernel_rfl) (fun s H C cl fp j1 => (rg_tup (rgs_cons (rg_name j1.nd 3) (rgs_cons (rg_name j1.nd 4) rgs_nil)) (hl := (tsC_len (tsC_len (fun _ _ h => tsN_len h)))))) (fun s H C cl fp j1 => rts_nil) (fun s H C cl fp j1 => (re_call j1 (FnA.mono (ok_between Z TB) (by omega)) hr (ha := (ra_cons (re_bin op_subV ov_i2 (rb_var 3) (rb_var 2)) (ra_cons (re_var 4) (ra_cons (re_bin op_addV ov_add (rb_var 3) (rb_var 2)) ra_nil)))) (hl := (alen_cons (alen_cons (alen_cons alen_nil))))))))) Z.b_tuple)))
def C_fits_row_1 : SE := (eLc (iVal (eVar 4)) tN [5] [5] tYesS (callS F_fits_key (aCons (eVar 0) (aCons (eVar 5) aNil))))
def C_fits_row_2 : SE := (eLc (iZip (eVar 4) (eSl (eVarB 4) (oSome (eK (.int 1))) oNone vSl)) (tT (tsC tN (tsC tN tsN))) [5, 6] [5, 6] tYesS (eB2 (callS F_widest (aCons (eVar 5) (aCons (eVar 6) aNil))) (eVarB 3) vLe))
def B_fits_row : SS := (sSeq (sIf (tOr (tNot (tV (callS F_is_tuple_of (aCons (eVar 4) (aCons (eK (.int 1)) (aCons (eB2 (eK (.int 100)) (eK (.int 1)) vAdd) aNil)))))) (tNot (tV (eB1 C_fits_row_1 vAll)))) (sRet (eK (.bl false))) sNext)
  (sSeq (sIf (tOr (tV (eB2 (eB2 (eVarB 4) (eK (.int 0)) vIx) (eVarB 1) vNe)) (tV (eB2 (eB2 (eVarB 4) (eB1 (eK (.int 1)) vNeg) vIx) (eVarB 2) vNe))) (sRet (eK (.bl false))) sNext)
  (sRet (eB1 C_fits_row_2 vAll))))
def F_fits_row : List Va → Cv → Re Va := runF 7 false B_fits_row
theorem ok_fits_row {P : Program} {w : World} {K : PySem.W.Frag} {mg : Str → Option Value} {base : Heap} (Z : Fx K mg) (TB : Tq Z base) : FnA P w K mg base (L2N.CX P w) 5 "fits_row" Z.a_fits_row Z.fd_fits_row ["make", "key", "other", "fault", "value"] (spG ⟨K, mg, Z.Tb, none, none, none⟩ 5 false F_fits_row) :=
  fn_A Z.d_fits_row (N := ["make", "key", "other", "fault", "value", "one", "two"]) (k := 4) (fb := B_fits_row) (by decide +kernel) (by decide) fun cdv A outer s H E hr j => (rss_cons (rs_if (RW.rt (rw_or (rt_not (rt_val (re_call j (FnA.mono (ok_is_tuple_of Z TB) (by omega)) hr (ha := (ra_cons (re_var 4) (ra_cons re_int (ra_cons (re_bin op_addV ov_add (RE.rb (re_gint Z.g_COPIES)) (RE.rb re_int)) ra_nil)))) (hl := (alen_cons (alen_cons (alen_cons alen_nil))))))) (rw_or1 (rt_not (rt_val (re_b1 (cr_all rfl) uc_bls (RE.rb (RF.re (rf_lc [("one", 5)] j (ri_val (re_var 4)) (by kernel_rfl) (fun s H C cl fp j1 => (rg_name j1.nd 5)) (fun s H C cl fp j1 => rts_nil) (fun s H C cl fp j1 => (re_call j1 (FnA.mono (ok_fits_key Z TB) (by omega)) hr (ha := (ra_cons (re_var 0) (ra_cons (re_var 5) ra_nil))) (hl := (alen_cons (alen_cons alen_nil)))))))) Z.b_all)))))) (rss_one (rs_ret re_bl)) rss_nil)
  (rss_cons (rs_if (RW.rt (rw_or (rt_cmp (op_neP j) ov_ne (RE.rb (re_ix j (rb_var 4) (RE.rb re_int))) (rb_var 1) rfl) (rw_or1 (rt_cmp (op_neP j) ov_ne (RE.rb (re_ix j (rb_var 4) (RE.rb (re_neg (RE.rb re_int))))) (rb_var 2) rfl)))) (rss_one (rs_ret re_bl)) rss_nil)
  (rss_one (rs_ret (re_b1 (cr_all rfl) uc_bls (RE.rb (RF.re (rf_lc [("one", 5), ("two", 6)] j (ri_zip (re_var 4) (re_sl (rb_var 4) (ro_some re_int) ro_none) Z.b_zip) (by kernel_rfl) (fun s H C cl fp j1 => (rg_tup (rgs_cons (rg_name j1.nd 5) (rgs_cons (rg_name j1.nd 6) rgs_nil)) (hl := (tsC_len (tsC_len (fun _ _ h => tsN_len h)))))) (fun s H C cl fp j1 => rts_nil) (fun s H C cl fp j1 => (re_cmp (op_leP j1) ov_le (RE.rb (re_call j1 (FnA.mono (ok_widest Z TB) (by omega)) hr (ha := (ra_cons (re_var 5) (ra_cons (re_var 6) ra_nil))) (hl := (alen_cons (alen_cons alen_nil))))) (rb_var 3) rfl))))) Z.b_all)))))
def B_copies_needed : SS := (sSeq (sDrop (callS F_need_two (aCons (eVar 0) (aCons (eVar 1) (aCons (eVar 2) (aCons (eVar 3) aNil))))))
  (sRet (callS F_copies_for (aCons (callS F_widest (aCons (eVar 1) (aCons (eVar 2) aNil))) (aCons (eVar 3) aNil)))))
def F_copies_needed : List Va → Cv → Re Va := runF 4 false B_copies_needed
theorem ok_copies_needed {P : Program} {w : World} {K : PySem.W.Frag} {mg : Str → Option Value} {base : Heap} (Z : Fx K mg) (TB : Tq Z base) : FnA P w K mg base (L2N.CX P w) 7 "copies_needed" Z.a_copies_needed Z.fd_copies_needed ["make", "key", "other", "fault"] (spG ⟨K, mg, Z.Tb, none, none, none⟩ 4 false F_copies_needed) :=
  fn_A Z.d_copies_needed (N := ["make", "key", "other", "fault"]) (k := 6) (fb := B_copies_needed) (by decide +kernel) (by decide) fun cdv A outer s H E hr j => (rss_cons (rs_drop (re_call j (FnA.mono (ok_need_two Z TB) (by omega)) hr (ha := (ra_cons (re_var 0) (ra_cons (re_var 1) (ra_cons (re_var 2) (ra_cons (re_var 3) ra_nil))))) (hl := (alen_cons (alen_cons (alen_cons (alen_cons alen_nil)))))))
  (rss_one (rs_ret (re_call j (FnA.mono (ok_copies_for Z TB) (by omega)) hr (ha := (ra_cons (re_call j (FnA.mono (ok_widest Z TB) (by omega)) hr (ha := (ra_cons (re_var 1) (ra_cons (re_var 2) ra_nil))) (hl := (alen_cons (alen_cons alen_nil)))) (ra_cons (re_var 3) ra_nil))) (hl := (alen_cons (alen_cons alen_nil)))))))
def C_copy_row_1 : SE := (eLc (iRange1 (eB2 (eVarB 4) (eK (.int 1)) vAdd)) tN [5] [5] tYesS (callS F_towards (aCons (eVar 1) (aCons (eVar 2) (aCons (eB2 (eVarB 3) (eVarB 5) vMulW) aNil)))))
def B_copy_row : SS := (sSeq (sDrop (callS F_need_two (aCons (eVar 0) (aCons (eVar 1) (aCons (eVar 2) (aCons (eVar 3) aNil))))))
  (sSeq (sVal 4 (callS F_copies_for (aCons (callS F_widest (aCons (eVar 1) (aCons (eVar 2) aNil))) (aCons (eVar 3) aNil))))
  (sRet (eIf (tV (eB2 (eVarB 4) (eK .non) vIs)) (eK .non) (eB1 C_copy_row_1 vTup)))))
def F_copy_row : List Va → Cv → Re Va := runF 6 false B_copy_row
theorem ok_copy_row {P : Program} {w : World} {K : PySem.W.Frag} {mg : Str → Option Value} {base : Heap} (Z : Fx K mg) (TB : Tq Z base) : FnA P w K mg base (L2N.CX P w) 7 "copy_row" Z.a_copy_row Z.fd_copy_row ["make", "key", "other", "fault"] (spG ⟨K, mg, Z.Tb, none, none, none⟩ 4 false F_copy_row) :=
  fn_A Z.d_copy_row (N := ["make", "key", "other", "fault", "many", "turn"]) (k := 6) (fb := B_copy_row) (by decide +kernel) (by decide) fun cdv A outer s H E hr j => (rss_cons (rs_drop (re_call j (FnA.mono (ok_need_two Z TB) (by omega)) hr (ha := (ra_cons (re_var 0) (ra_cons (re_var 1) (ra_cons (re_var 2) (ra_cons (re_var 3) ra_nil))))) (hl := (alen_cons (alen_cons (alen_cons (alen_cons alen_nil)))))))
  (rss_cons (rs_val j 4 (re_call j (FnA.mono (ok_copies_for Z TB) (by omega)) hr (ha := (ra_cons (re_call j (FnA.mono (ok_widest Z TB) (by omega)) hr (ha := (ra_cons (re_var 1) (ra_cons (re_var 2) ra_nil))) (hl := (alen_cons (alen_cons alen_nil)))) (ra_cons (re_var 3) ra_nil))) (hl := (alen_cons (alen_cons alen_nil)))))
  (rss_one (rs_ret (re_if (rt_cmp op_isV ov_is (rb_var 4) (RE.rb re_non) rfl) re_non (re_t1 call_tuple_of uc_tup (RE.rb (RF.re (rf_lc [("turn", 5)] j (ri_range1 (re_bin op_addV ov_add (rb_var 4) (RE.rb re_int)) Z.b_range) (by kernel_rfl) (fun s H C cl fp j1 => (rg_name j1.nd 5)) (fun s H C cl fp j1 => rts_nil) (fun s H C cl fp j1 => (re_call j1 (FnA.mono (ok_towards Z TB) (by omega)) hr (ha := (ra_cons (re_var 1) (ra_cons (re_var 2) (ra_cons (re_bin op_mulW ov_mulW (rb_var 3) (rb_var 5)) ra_nil)))) (hl := (alen_cons (alen_cons (alen_cons alen_nil))))))))) Z.b_tuple))))))
def B_is_copy_row : SS := (sSeq (sDrop (callS F_need_two (aCons (eVar 0) (aCons (eVar 1) (aCons (eVar 2) (aCons (eVar 3) aNil))))))
  (sRet (callS F_fits_row (aCons (eVar 0) (aCons (eVar 1) (aCons (eVar 2) (aCons (eVar 3) (aCons (eVar 4) aNil))))))))
def F_is_copy_row : List Va → Cv → Re Va := runF 5 false B_is_copy_row
theorem ok_is_copy_row {P : Program} {w : World} {K : PySem.W.Frag} {mg : Str → Option Value} {base : Heap} (Z : Fx K mg) (TB : Tq Z base) : FnA P w K mg base (L2N.CX P w) 7 "is_copy_row" Z.a_is_copy_row Z.fd_is_copy_row ["make", "key", "other", "fault", "value"] (spG ⟨K, mg, Z.Tb, none, none, none⟩ 5 false F_is_copy_row) :=
  fn_A Z.d_is_copy_row (N := ["make", "key", "other", "fault", "value"]) (k := 6) (fb := B_is_copy_row) (by decide +kernel) (by decide) fun cdv A outer s H E hr j => (rss_cons (rs_drop (re_call j (FnA.mono (ok_need_two Z TB) (by omega)) hr (ha := (ra_cons (re_var 0) (ra_cons (re_var 1) (ra_cons (re_var 2) (ra_cons (re_var 3) ra_nil))))) (hl := (alen_cons (alen_cons (alen_cons (alen_cons alen_nil)))))))
  (rss_one (rs_ret (re_call j (FnA.mono (ok_fits_row Z TB) (by omega)) hr (ha := (ra_cons (re_var 0) (ra_cons (re_var 1) (ra_cons (re_var 2) (ra_cons (re_var 3) (ra_cons (re_var 4) ra_nil)))))) (hl := (alen_cons (alen_cons (alen_cons (alen_cons (alen_cons alen_nil))))))))))
def C_common_copy_1 : SE := (eLc (iZip (eVar 1) (eVar 2)) (tT (tsC tN (tsC tN tsN))) [5, 6] [5, 6] tYesS (eB2 (eB2 (eVarB 5) (eVarB 6) vAdd) (eK (.int 2)) vDiv))
def B_common_copy : SS := (sSeq (sDrop (callS F_need_two (aCons (eVar 0) (aCons (eVar 1) (aCons (eVar 2) (aCons (eVar 3) aNil))))))
  (sSeq (sDrop (callS F_need_copies (aCons (eVar 4) aNil)))
  (sSeq (sIf (tV (eB2 (callS F_widest (aCons (eVar 1) (aCons (eVar 2) aNil))) (eB2 (eB2 (eK (.int 2)) (eVarB 3) vMulW) (eVarB 4) vMulW) vGt)) (sRet (eK .non)) sNext)
  (sRet (eB1 C_common_copy_1 vTup)))))
def F_common_copy : List Va → Cv → Re Va := runF 7 false B_common_copy
theorem ok_common_copy {P : Program} {w : World} {K : PySem.W.Frag} {mg : Str → Option Value} {base : Heap} (Z : Fx K mg) (TB : Tq Z base) : FnA P w K mg base (L2N.CX P w) 7 "common_copy" Z.a_common_copy Z.fd_common_copy ["make", "key", "other", "fault", "many"] (spG ⟨K, mg, Z.Tb, none, none, none⟩ 5 false F_common_copy) :=
  fn_A Z.d_common_copy (N := ["make", "key", "other", "fault", "many", "one", "two"]) (k := 6) (fb := B_common_copy) (by decide +kernel) (by decide) fun cdv A outer s H E hr j => (rss_cons (rs_drop (re_call j (FnA.mono (ok_need_two Z TB) (by omega)) hr (ha := (ra_cons (re_var 0) (ra_cons (re_var 1) (ra_cons (re_var 2) (ra_cons (re_var 3) ra_nil))))) (hl := (alen_cons (alen_cons (alen_cons (alen_cons alen_nil)))))))
  (rss_cons (rs_drop (re_call j (FnA.mono (ok_need_copies Z TB) (by omega)) hr (ha := (ra_cons (re_var 4) ra_nil)) (hl := (alen_cons alen_nil))))
  (rss_cons (rs_if (rt_cmp (op_gtP j) ov_gt (RE.rb (re_call j (FnA.mono (ok_widest Z TB) (by omega)) hr (ha := (ra_cons (re_var 1) (ra_cons (re_var 2) ra_nil))) (hl := (alen_cons (alen_cons alen_nil))))) (RE.rb (re_bin op_mulW ov_mulW (RE.rb (re_bin op_mulW ov_mulW (RE.rb re_int) (rb_var 3))) (rb_var 4))) rfl) (rss_one (rs_ret re_non)) rss_nil)
  (rss_one (rs_ret (re_t1 call_tuple_of uc_tup (RE.rb (RF.re (rf_lc [("one", 5), ("two", 6)] j (ri_zip (re_var 1) (re_var 2) Z.b_zip) (by kernel_rfl) (fun s H C cl fp j1 => (rg_tup (rgs_cons (rg_name j1.nd 5) (rgs_cons (rg_name j1.nd 6) rgs_nil)) (hl := (tsC_len (tsC_len (fun _ _ h => tsN_len h)))))) (fun s H C cl fp j1 => rts_nil) (fun s H C cl fp j1 => (re_bin op_divV ov_i2 (RE.rb (re_bin op_addV ov_add (rb_var 5) (rb_var 6))) (RE.rb re_int)))))) Z.b_tuple))))))
def B_is_common_copy : SS := (sSeq (sDrop (callS F_need_two (aCons (eVar 0) (aCons (eVar 1) (aCons (eVar 2) (aCons (eVar 3) aNil))))))
  (sSeq (sDrop (callS F_need_copies (aCons (eVar 4) aNil)))
  (sRet (eAnd (callS F_fits_key (aCons (eVar 0) (aCons (eVar 5) aNil))) (eB2 (eB2 (callS F_widest (aCons (eVar 1) (aCons (eVar 5) aNil))) (callS F_widest (aCons (eVar 2) (aCons (eVar 5) aNil))) vMax2) (eB2 (eVarB 3) (eVarB 4) vMulW) vLe)))))
def F_is_common_copy : List Va → Cv → Re Va := runF 6 false B_is_common_copy
theorem ok_is_common_copy {P : Program} {w : World} {K : PySem.W.Frag} {mg : Str → Option Value} {base : Heap} (Z : Fx K mg) (TB : Tq Z base) : FnA P w K mg base (L2N.CX P w) 7 "is_common_copy" Z.a_is_common_copy Z.fd_is_common_copy ["make", "key", "other", "fault", "many", "value"] (spG ⟨K, mg, Z.Tb, none, none, none⟩ 6 false F_is_common_copy) :=
  fn_A Z.d_is_common_copy (N := ["make", "key", "other", "fault", "many", "value"]) (k := 6) (fb := B_is_common_copy) (by decide +kernel) (by decide) fun cdv A outer s H E hr j => (rss_cons (rs_drop (re_call j (FnA.mono (ok_need_two Z TB) (by omega)) hr (ha := (ra_cons (re_var 0) (ra_cons (re_var 1) (ra_cons (re_var 2) (ra_cons (re_var 3) ra_nil))))) (hl := (alen_cons (alen_cons (alen_cons (alen_cons alen_nil)))))))
  (rss_cons (rs_drop (re_call j (FnA.mono (ok_need_copies Z TB) (by omega)) hr (ha := (ra_cons (re_var 4) ra_nil)) (hl := (alen_cons alen_nil))))
  (rss_one (rs_ret (re_and (re_call j (FnA.mono (ok_fits_key Z TB) (by omega)) hr (ha := (ra_cons (re_var 0) (ra_cons (re_var 5) ra_nil))) (hl := (alen_cons (alen_cons alen_nil)))) (re_one (re_cmp (op_leP j) ov_le (RE.rb (re_b2 (call_max2 rfl) ov_max2 (RE.rb (re_call j (FnA.mono (ok_widest Z TB) (by omega)) hr (ha := (ra_cons (re_var 1) (ra_cons (re_var 5) ra_nil))) (hl := (alen_cons (alen_cons alen_nil))))) (RE.rb (re_call j (FnA.mono (ok_widest Z TB) (by omega)) hr (ha := (ra_cons (re_var 2) (ra_cons (re_var 5) ra_nil))) (hl := (alen_cons (alen_cons alen_nil))))) Z.b_max)) (RE.rb (re_bin op_mulW ov_mulW (rb_var 3) (rb_var 4))) rfl)))))))
def B__law_cup : SS := (sSeq (sVal 1 (eB1 (eB2 (eB2 (eB1 (eVarB 0) vLstOf) (eLst (aCons (eK (.int 0)) aNil)) vAdd) (eK (.int 0)) vIx) vAbs))
  (sRet (eLst (aCons (eIf (tV (eB2 (eVarB 1) (eB2 (eK (.int 10)) (eK (.int 18)) vPow) vGe)) (eB2 (eVarB 1) (eK (.int 3553)) vDiv) (eK (.int 0))) (aCons (eB2 (eB2 (eB1 (eB2 (eB2 (eVarB 1) (eK (.int 1959)) vMulW) (eK (.int 10391)) vAdd) vInt) (eK (.int 2077541503)) vMod) (eK (.int 837)) vAdd) aNil)))))
def F__law_cup : List Va → Cv → Re Va := runF 2 true B__law_cup
theorem ok__law_cup {P : Program} {w : World} {K : PySem.W.Frag} {mg : Str → Option Value} {base : Heap} (Z : Fx K mg) (TB : Tq Z base) : FnA P w K mg base (L2N.CX P w) 1 "_law_cup" Z.a__law_cup Z.fd__law_cup ["script"] (spG ⟨K, mg, Z.Tb, none, none, none⟩ 1 true F__law_cup) :=
  fn_A Z.d__law_cup (N := ["script", "cell"]) (k := 0) (fb := B__law_cup) (by decide +kernel) (by decide) fun cdv A outer s H E hr j => (rss_cons (rs_val j 1 (re_b1 call_abs uc_abs (RE.rb (re_ix j (RE.rb (re_bin op_addV ov_add (RE.rb (RF.re (rf_t1 (call_listV rfl) ud_lst (rb_var 0) Z.b_list))) (RE.rb (RF.re (rf_lst (ra_cons re_int ra_nil)))))) (RE.rb re_int))) Z.b_abs))
  (rss_one (rs_retF (rf_lst (ra_cons (re_if (rt_cmp (op_geP j) ov_ge (rb_var 1) (RE.rb (re_bin op_powV ov_i2 (RE.rb re_int) (RE.rb re_int))) rfl) (re_bin op_divV ov_i2 (rb_var 1) (RE.rb re_int)) re_int) (ra_cons (re_bin op_addV ov_add (RE.rb (re_bin op_modV ov_i2 (RE.rb (re_t1 call_int1 uc_int (RE.rb (re_bin op_addV ov_add (RE.rb (re_bin op_mulW ov_mulW (rb_var 1) (RE.rb re_int))) (RE.rb re_int))) Z.b_int)) (RE.rb re_int))) (RE.rb re_int)) ra_nil))))))
def B__law_roll : SS := (sSeq (sIf (tV (eB2 (eB2 (eVarB 0) (eK (.int 0)) vIx) (eK (.int 0)) vGt)) (sSeq (sVal 2 (eB2 (eB1 (eB2 (eVarB 0) (eK (.int 0)) vIx) vInt) (eVarB 1) vMod))
  (sSeq (sCupSet 0 (eVar 0) (eB2 (eB2 (eVarB 0) (eK (.int 0)) vIx) (eVarB 1) vDiv))
  (sRet (eVar 2)))) sNext)
  (sSeq (sCupSet 1 (eVar 0) (eB2 (eB1 (eB2 (eB2 (eB2 (eVarB 0) (eK (.int 1)) vIx) (eK (.int 36817)) vMulW) (eK (.int 12439)) vAdd) vInt) (eK (.int 2147482951)) vMod))
  (sSeq (sVal 3 (eB2 (eB1 (eB2 (eB2 (eVarB 0) (eK (.int 1)) vIx) (eB2 (eB2 (eVarB 0) (eK (.int 1)) vIx) (eK (.int 1207)) vAdd) vMulW) vInt) (eK (.int 2147483059)) vMod))
  (sRet (eB2 (eB1 (eB2 (eVarB 3) (eK (.int 2465)) vDiv) vInt) (eVarB 1) vMod)))))
def F__law_roll : List Va → Cv → Re Va := runF 4 false B__law_roll
theorem ok__law_roll {P : Program} {w : World} {K : PySem.W.Frag} {mg : Str → Option Value} {base : Heap} (Z : Fx K mg) (TB : Tq Z base) : FnA P w K mg base (L2N.CX P w) 1 "_law_roll" Z.a__law_roll Z.fd__law_roll ["cup", "many"] (spG ⟨K, mg, Z.Tb, none, none, none⟩ 2 false F__law_roll) :=
  fn_A Z.d__law_roll (N := ["cup", "many", "found", "deep"]) (k := 0) (fb := B__law_roll) (by decide +kernel) (by decide) fun cdv A outer s H E hr j => (rss_cons (rs_if (rt_cmp (op_gtP j) ov_gt (RE.rb (re_ix j (rb_var 0) (RE.rb re_int))) (RE.rb re_int) rfl) (rss_cons (rs_val j 2 (re_bin op_modV ov_i2 (RE.rb (re_t1 call_int1 uc_int (RE.rb (re_ix j (rb_var 0) (RE.rb re_int))) Z.b_int)) (rb_var 1)))
  (rss_cons (rs_cupset 0 (by decide) (re_bin op_divV ov_i2 (RE.rb (re_ix j (rb_var 0) (RE.rb re_int))) (rb_var 1)) (re_var 0))
  (rss_one (rs_ret (re_var 2))))) rss_nil)
  (rss_cons (rs_cupset 1 (by decide) (re_bin op_modV ov_i2 (RE.rb (re_t1 call_int1 uc_int (RE.rb (re_bin op_addV ov_add (RE.rb (re_bin op_mulW ov_mulW (RE.rb (re_ix j (rb_var 0) (RE.rb re_int))) (RE.rb re_int))) (RE.rb re_int))) Z.b_int)) (RE.rb re_int)) (re_var 0))
  (rss_cons (rs_val j 3 (re_bin op_modV ov_i2 (RE.rb (re_t1 call_int1 uc_int (RE.rb (re_bin op_mulW ov_mulW (RE.rb (re_ix j (rb_var 0) (RE.rb re_int))) (RE.rb (re_bin op_addV ov_add (RE.rb (re_ix j (rb_var 0) (RE.rb re_int))) (RE.rb re_int))))) Z.b_int)) (RE.rb re_int)))
  (rss_one (rs_ret (re_bin op_modV ov_i2 (RE.rb (re_t1 call_int1 uc_int (RE.rb (re_bin op_divV ov_i2 (rb_var 3) (RE.rb re_int))) Z.b_int)) (rb_var 1)))))))
def B__law_some : SS := (sRet (eB2 (eVarB 1) (callS F__law_roll (aCons (eVar 0) (aCons (eB1 (eVarB 1) vLen) aNil))) vIx))
def F__law_some : List Va → Cv → Re Va := runF 2 false B__law_some
theorem ok__law_some {P : Program} {w : World} {K : PySem.W.Frag} {mg : Str → Option Value} {base : Heap} (Z : Fx K mg) (TB : Tq Z base) : FnA P w K mg base (L2N.CX P w) 2 "_law_some" Z.a__law_some Z.fd__law_some ["cup", "things"] (spG ⟨K, mg, Z.Tb, none, none, none⟩ 2 false F__law_some) :=
  fn_A Z.d__law_some (N := ["cup", "things"]) (k := 1) (fb := B__law_some) (by decide +kernel) (by decide) fun cdv A outer s H E hr j => (rss_one (rs_ret (re_ix j (rb_var 1) (RE.rb (re_call j (FnA.mono (ok__law_roll Z TB) (by omega)) hr (ha := (ra_cons (re_var 0) (ra_cons (re_b1 call_lenV uc_len (rb_var 1) Z.b_len) ra_nil))) (hl := (alen_cons (alen_cons alen_nil))))))))
def C__law_same_1 (rec : List Va → Cv → Re Va) : SE := (eLc (iRange1 (eB1 (eVarB 1) vLen)) tN [2] [2] tYesS (callS rec (aCons (eB2 (eVarB 0) (eVarB 2) vIx) (aCons (eB2 (eVarB 1) (eVarB 2) vIx) aNil))))
def B__law_same (rec : List Va → Cv → Re Va) : SS := (sSeq (sIf (tV (eB1 (eVarB 1) (vIsi .tuple))) (sSeq (sIf (tOr (tNot (tV (eB1 (eVarB 0) (vIsi .tuple)))) (tV (eB2 (eB1 (eVarB 0) vLen) (eB1 (eVarB 1) vLen) vNe))) (sRet (eK (.bl false))) sNext)
  (sRet (eB1 (C__law_same_1 rec) vAll))) sNext)
  (sSeq (sIf (tV (eB2 (eVarB 1) (eK .non) vIs)) (sRet (eB2 (eVarB 0) (eK .non) vIs)) sNext)
  (sSeq (sIf (tV (eB1 (eVarB 1) (vIsi .bool))) (sRet (eIf (tV (eVar 1)) (eB2 (eVarB 0) (eK (.bl true)) vIs) (eB2 (eVarB 0) (eK (.bl false)) vIs))) sNext)
  (sSeq (sIf (tV (eB1 (eVarB 1) (vIsi .int))) (sRet (eAnd (eB1 (eVarB 0) (vIsi .int)) (eAnd (eNot (eB1 (eVarB 0) (vIsi .bool))) (eB2 (eB1 (eVarB 0) vInt) (eVarB 1) vEq)))) sNext)
  (sRet (eAnd (eB1 (eVarB 0) (vIsi .str)) (eB2 (eB1 (eVarB 0) vStr) (eVarB 1) vEq)))))))
def F__law_same : Nat → List Va → Cv → Re Va
  | 0 => fun _ _ => .stk
  | n + 1 => runF 3 false (B__law_same (F__law_same n))
theorem ok__law_same {P : Program} {w : World} {K : PySem.W.Frag} {mg : Str → Option Value} {base : Heap} (Z : Fx K mg) (TB : Tq Z base) : ∀ n : Nat, FnA P w K mg base (L2N.CX P w) (1 + n) "_law_same" Z.a__law_same Z.fd__law_same ["told", "due"] (spG ⟨K, mg, Z.Tb, none, none, none⟩ 2 false (F__law_same n))
  | 0 => fn_stk Z.d__law_same
  | n + 1 => by
    have ih := ok__law_same (P := P) (w := w) Z TB n
    exact fn_A Z.d__law_same (N := ["told", "due", "at"]) (k := 1 + n) (fb := B__law_same (F__law_same n)) (by decide +kernel) (by decide) fun cdv A outer s H E hr j => (rss_cons (rs_if (rt_val (re_isi .tuple (rb_var 1) Z.b_isinstance Z.b_tuple)) (rss_cons (rs_if (RW.rt (rw_or (rt_not (rt_val (re_isi .tuple (rb_var 0) Z.b_isinstance Z.b_tuple))) (rw_or1 (rt_cmp (op_neP j) ov_ne (RE.rb (re_b1 call_lenV uc_len (rb_var 0) Z.b_len)) (RE.rb (re_b1 call_lenV uc_len (rb_var 1) Z.b_len)) rfl)))) (rss_one (rs_ret re_bl)) rss_nil)
  (rss_one (rs_ret (re_b1 (cr_all rfl) uc_bls (RE.rb (RF.re (rf_lc [("at", 2)] j (ri_range1 (re_b1 call_lenV uc_len (rb_var 1) Z.b_len) Z.b_range) (by kernel_rfl) (fun s H C cl fp j1 => (rg_name j1.nd 2)) (fun s H C cl fp j1 => rts_nil) (fun s H C cl fp j1 => (re_call j1 ih hr (ha := (ra_cons (re_ix j1 (rb_var 0) (rb_var 2)) (ra_cons (re_ix j1 (rb_var 1) (rb_var 2)) ra_nil))) (hl := (alen_cons (alen_cons alen_nil)))))))) Z.b_all)))) rss_nil)
  (rss_cons (rs_if (rt_cmp op_isV ov_is (rb_var 1) (RE.rb re_non) rfl) (rss_one (rs_ret (re_cmp op_isV ov_is (rb_var 0) (RE.rb re_non) rfl))) rss_nil)
  (rss_cons (rs_if (rt_val (re_isi .bool (rb_var 1) Z.b_isinstance Z.b_bool)) (rss_one (rs_ret (re_if (rt_val (re_var 1)) (re_cmp op_isV ov_is (rb_var 0) (RE.rb re_bl) rfl) (re_cmp op_isV ov_is (rb_var 0) (RE.rb re_bl) rfl)))) rss_nil)
  (rss_cons (rs_if (rt_val (re_isi .int (rb_var 1) Z.b_isinstance Z.b_int)) (rss_one (rs_ret (re_and (re_isi .int (rb_var 0) Z.b_isinstance Z.b_int) (re_and (re_not (re_isi .bool (rb_var 0) Z.b_isinstance Z.b_bool)) (re_one (re_cmp (op_eqP j) ov_eq (RE.rb (re_t1 call_int1 uc_int (rb_var 0) Z.b_int)) (rb_var 1) rfl)))))) rss_nil)
  (rss_one (rs_ret (re_and (re_isi .str (rb_var 0) Z.b_isinstance Z.b_str) (re_one (re_cmp (op_eqP j) ov_eq (RE.rb (re_t1 call_strV uc_str (rb_var 0) Z.b_str)) (rb_var 1) rfl)))))))))
def L__law_key_1 : SS := (sSeq (sPars [4, 5] (mVal (eB2 (eK (.int 0)) (eB2 (eB2 (eVarB 2) (eB1 (eK (.int 1)) vNeg) vIx) (eB2 (eVarB 1) (eK (.int 2)) vIx) vSub) vMax2) (mVal (eB2 (eB2 (eB2 (eVarB 1) (eK (.int 1)) vIx) (eK (.int 1)) vSub) (eB2 (eB2 (eVarB 2) (eB1 (eK (.int 1)) vNeg) vIx) (eB2 (eVarB 1) (eK (.int 2)) vIx) vAdd) vMin2) mNil)))
  (sVal 2 (eB2 (eVarB 2) (eTup (aCons (eB2 (eVarB 4) (callS F__law_roll (aCons (eVar 0) (aCons (eB2 (eB2 (eVarB 5) (eVarB 4) vSub) (eK (.int 1)) vAdd) aNil))) vAdd) aNil)) vAdd)))
def B__law_key : SS := (sSeq (sVal 2 (eTup (aCons (callS F__law_roll (aCons (eVar 0) (aCons (eB2 (eVarB 1) (eK (.int 1)) vIx) aNil))) aNil)))
  (sSeq (sFor (iRange1 (eB2 (eB2 (eVarB 1) (eK (.int 0)) vIx) (eK (.int 1)) vSub)) tN [3] L__law_key_1)
  (sRet (eVar 2))))
def F__law_key : List Va → Cv → Re Va := runF 6 false B__law_key
theorem ok__law_key {P : Program} {w : World} {K : PySem.W.Frag} {mg : Str → Option Value} {base : Heap} (Z : Fx K mg) (TB : Tq Z base) : FnA P w K mg base (L2N.CX P w) 2 "_law_key" Z.a__law_key Z.fd__law_key ["cup", "make"] (spG ⟨K, mg, Z.Tb, none, none, none⟩ 2 false F__law_key) :=
  fn_A Z.d__law_key (N := ["cup", "make", "key", "place", "low", "high"]) (k := 1) (fb := B__law_key) (by decide +kernel) (by decide) fun cdv A outer s H E hr j => (rss_cons (rs_val j 2 (re_tup (ra_cons (re_call j (FnA.mono (ok__law_roll Z TB) (by omega)) hr (ha := (ra_cons (re_var 0) (ra_cons (re_ix j (rb_var 1) (RE.rb re_int)) ra_nil))) (hl := (alen_cons (alen_cons alen_nil)))) ra_nil)))
  (rss_cons (rs_for j (ri_range1 (re_bin op_subV ov_i2 (RE.rb (re_ix j (rb_var 1) (RE.rb re_int))) (RE.rb re_int)) Z.b_range) (rg_name j.nd 3) (rss_cons (rs_par j 4 5 (rm_val (re_b2 (call_max2 rfl) ov_max2 (RE.rb re_int) (RE.rb (re_bin op_subV ov_i2 (RE.rb (re_ix j (rb_var 2) (RE.rb (re_neg (RE.rb re_int))))) (RE.rb (re_ix j (rb_var 1) (RE.rb re_int))))) Z.b_max) (rm_val (re_b2 (call_min2 rfl) ov_min2 (RE.rb (re_bin op_subV ov_i2 (RE.rb (re_ix j (rb_var 1) (RE.rb re_int))) (RE.rb re_int))) (RE.rb (re_bin op_addV ov_add (RE.rb (re_ix j (rb_var 2) (RE.rb (re_neg (RE.rb re_int))))) (RE.rb (re_ix j (rb_var 1) (RE.rb re_int))))) Z.b_min) rm_nil)))
  (rss_one (rs_val j 2 (re_bin op_addV ov_add (rb_var 2) (RE.rb (re_tup (ra_cons (re_bin op_addV ov_add (rb_var 4) (RE.rb (re_call j (FnA.mono (ok__law_roll Z TB) (by omega)) hr (ha := (ra_cons (re_var 0) (ra_cons (re_bin op_addV ov_add (RE.rb (re_bin op_subV ov_i2 (rb_var 5) (rb_var 4))) (RE.rb re_int)) ra_nil))) (hl := (alen_cons (alen_cons alen_nil)))))) ra_nil))))))))
  (rss_one (rs_ret (re_var 2)))))
def C__law_is_key_1 : SE := (eLc (iVal (eVar 1)) tN [2] [2] (tOr (tNot (tV (eB1 (eVarB 2) (vIsi .int)))) (tV (eB1 (eVarB 2) (vIsi .bool)))) (eVar 2))
def C__law_is_key_2 : SE := (eLc (iVal (eVar 1)) tN [2] [2] (tNot (tV (eChain (eK (.int 0)) (eVarB 2) (eB2 (eVarB 0) (eK (.int 1)) vIx) vLe vLt))) (eVar 2))
def C__law_is_key_3 : SE := (eLc (iZip (eVar 1) (eSl (eVarB 1) (oSome (eK (.int 1))) oNone vSl)) (tT (tsC tN (tsC tN tsN))) [3, 4] [3, 4] (tV (eB2 (eB1 (eB2 (eVarB 3) (eVarB 4) vSub) vAbs) (eB2 (eVarB 0) (eK (.int 2)) vIx) vGt)) (eK (.int 1)))
def B__law_is_key : SS := (sSeq (sIf (tOr (tNot (tV (eB1 (eVarB 1) (vIsi .tuple)))) (tOr (tV (eB2 (eB1 (eVarB 1) vLen) (eB2 (eVarB 0) (eK (.int 0)) vIx) vNe)) (tV (eB2 C__law_is_key_1 (eLst aNil) vNe)))) (sRet (eK (.bl false))) sNext)
  (sSeq (sIf (tV (eB2 C__law_is_key_2 (eLst aNil) vNe)) (sRet (eK (.bl false))) sNext)
  (sRet (eB2 C__law_is_key_3 (eLst aNil) vEq))))
def F__law_is_key : List Va → Cv → Re Va := runF 5 false B__law_is_key
theorem ok__law_is_key {P : Program} {w : World} {K : PySem.W.Frag} {mg : Str → Option Value} {base : Heap} (Z : Fx K mg) (TB : Tq Z base) : FnA P w K mg base (L2N.CX P w) 1 "_law_is_key" Z.a__law_is_key Z.fd__law_is_key ["make", "value"] (spG ⟨K, mg, Z.Tb, none, none, none⟩ 2 false F__law_is_key) :=
  fn_A Z.d__law_is_key (N := ["make", "value", "cut", "one", "other"]) (k := 0) (fb := B__law_is_key) (by decide +kernel) (by decide) fun cdv A outer s H E hr j => (rss_cons (rs_if (RW.rt (rw_or (rt_not (rt_val (re_isi .tuple (rb_var 1) Z.b_isinstance Z.b_tuple))) (rw_or (rt_cmp (op_neP j) ov_ne (RE.rb (re_b1 call_lenV uc_len (rb_var 1) Z.b_len)) (RE.rb (re_ix j (rb_var 0) (RE.rb re_int))) rfl) (rw_or1 (rt_cmp (op_neP j) ov_ne (RE.rb (RF.re (rf_lc [("cut", 2)] j (ri_val (re_var 1)) (by kernel_rfl) (fun s H C cl fp j1 => (rg_name j1.nd 2)) (fun s H C cl fp j1 => (rts_one (RW.rt (rw_or (rt_not (rt_val (re_isi .int (rb_var 2) Z.b_isinstance Z.b_int))) (rw_or1 (rt_val (re_isi .bool (rb_var 2) Z.b_isinstance Z.b_bool))))))) (fun s H C cl fp j1 => (re_var 2))))) (RE.rb (RF.re (rf_lst ra_nil))) rfl))))) (rss_one (rs_ret re_bl)) rss_nil)
  (rss_cons (rs_if (rt_cmp (op_neP j) ov_ne (RE.rb (RF.re (rf_lc [("cut", 2)] j (ri_val (re_var 1)) (by kernel_rfl) (fun s H C cl fp j1 => (rg_name j1.nd 2)) (fun s H C cl fp j1 => (rts_one (rt_not (rt_chain (op_leP j1) ov_le (op_ltP j1) ov_lt (RE.rb re_int) (rb_var 2) (RE.rb (re_ix j1 (rb_var 0) (RE.rb re_int))))))) (fun s H C cl fp j1 => (re_var 2))))) (RE.rb (RF.re (rf_lst ra_nil))) rfl) (rss_one (rs_ret re_bl)) rss_nil)
  (rss_one (rs_ret (re_cmp (op_eqP j) ov_eq (RE.rb (RF.re (rf_lc [("one", 3), ("other", 4)] j (ri_zip (re_var 1) (re_sl (rb_var 1) (ro_some re_int) ro_none) Z.b_zip) (by kernel_rfl) (fun s H C cl fp j1 => (rg_tup (rgs_cons (rg_name j1.nd 3) (rgs_cons (rg_name j1.nd 4) rgs_nil)) (hl := (tsC_len (tsC_len (fun _ _ h => tsN_len h)))))) (fun s H C cl fp j1 => (rts_one (rt_cmp (op_gtP j1) ov_gt (RE.rb (re_b1 call_abs uc_abs (RE.rb (re_bin op_subV ov_i2 (rb_var 3) (rb_var 4))) Z.b_abs)) (RE.rb (re_ix j1 (rb_var 0) (RE.rb re_int))) rfl))) (fun s H C cl fp j1 => re_int)))) (RE.rb (RF.re (rf_lst ra_nil))) rfl)))))
def C__law_far_1 : SE := (eLc (iZip (eVar 0) (eVar 1)) (tT (tsC tN (tsC tN tsN))) [2, 3] [2, 3] tYesS (eB1 (eB2 (eVarB 2) (eVarB 3) vSub) vAbs))
def B__law_far : SS := (sRet (eB1 C__law_far_1 vMax))
def F__law_far : List Va → Cv → Re Va := runF 4 false B__law_far
theorem ok__law_far {P : Program} {w : World} {K : PySem.W.Frag} {mg : Str → Option Value} {base : Heap} (Z : Fx K mg) (TB : Tq Z base) : FnA P w K mg base (L2N.CX P w) 1 "_law_far" Z.a__law_far Z.fd__law_far ["key", "other"] (spG ⟨K, mg, Z.Tb, none, none, none⟩ 2 false F__law_far) :=
  fn_A Z.d__law_far (N := ["key", "other", "one", "two"]) (k := 0) (fb := B__law_far) (by decide +kernel) (by decide) fun cdv A outer s H E hr j => (rss_one (rs_ret (re_b1 (cr_max rfl) uc_max (RE.rb (RF.re (rf_lc [("one", 2), ("two", 3)] j (ri_zip (re_var 0) (re_var 1) Z.b_zip) (by kernel_rfl) (fun s H C cl fp j1 => (rg_tup (rgs_cons (rg_name j1.nd 2) (rgs_cons (rg_name j1.nd 3) rgs_nil)) (hl := (tsC_len (tsC_len (fun _ _ h => tsN_len h)))))) (fun s H C cl fp j1 => rts_nil) (fun s H C cl fp j1 => (re_b1 call_abs uc_abs (RE.rb (re_bin op_subV ov_i2 (rb_var 2) (rb_var 3))) Z.b_abs))))) Z.b_max)))
def B__law_make : SS := (sSeq (sIf (tV (eB2 (callS F__law_roll (aCons (eVar 0) (aCons (eK (.int 4)) aNil))) (eK (.int 0)) vEq)) (sRet (eTup (aCons (eK (.int 8)) (aCons (eK (.int 10)) (aCons (eB2 (eK (.int 1)) (callS F__law_roll (aCons (eVar 0) (aCons (eK (.int 9)) aNil))) vAdd) aNil))))) sNext)
  (sRet (eTup (aCons (eB2 (eK (.int 1)) (callS F__law_roll (aCons (eVar 0) (aCons (eK (.int 5)) aNil))) vAdd) (aCons (eB2 (eK (.int 2)) (callS F__law_roll (aCons (eVar 0) (aCons (eK (.int 9)) aNil))) vAdd) (aCons (eB2 (eK (.int 1)) (callS F__law_roll (aCons (eVar 0) (aCons (eK (.int 4)) aNil))) vAdd) aNil))))))
def F__law_make : List Va → Cv → Re Va := runF 1 false B__law_make
theorem ok__law_make {P : Program} {w : World} {K : PySem.W.Frag} {mg : Str → Option Value} {base : Heap} (Z : Fx K mg) (TB : Tq Z base) : FnA P w K mg base (L2N.CX P w) 2 "_law_make" Z.a__law_make Z.fd__law_make ["cup"] (spG ⟨K, mg, Z.Tb, none, none, none⟩ 1 false F__law_make) :=
  fn_A Z.d__law_make (N := ["cup"]) (k := 1) (fb := B__law_make) (by decide +kernel) (by decide) fun cdv A outer s H E hr j => (rss_cons (rs_if (rt_cmp (op_eqP j) ov_eq (RE.rb (re_call j (FnA.mono (ok__law_roll Z TB) (by omega)) hr (ha := (ra_cons (re_var 0) (ra_cons re_int ra_nil))) (hl := (alen_cons (alen_cons alen_nil))))) (RE.rb re_int) rfl) (rss_one (rs_ret (re_tup (ra_cons re_int (ra_cons re_int (ra_cons (re_bin op_addV ov_add (RE.rb re_int) (RE.rb (re_call j (FnA.mono (ok__law_roll Z TB) (by omega)) hr (ha := (ra_cons (re_var 0) (ra_cons re_int ra_nil))) (hl := (alen_cons (alen_cons alen_nil)))))) ra_nil)))))) rss_nil)
  (rss_one (rs_ret (re_tup (ra_cons (re_bin op_addV ov_add (RE.rb re_int) (RE.rb (re_call j (FnA.mono (ok__law_roll Z TB) (by omega)) hr (ha := (ra_cons (re_var 0) (ra_cons re_int ra_nil))) (hl := (alen_cons (alen_cons alen_nil)))))) (ra_cons (re_bin op_addV ov_add (RE.rb re_int) (RE.rb (re_call j (FnA.mono (ok__law_roll Z TB) (by omega)) hr (ha := (ra_cons (re_var 0) (ra_cons re_int ra_nil))) (hl := (alen_cons (alen_cons alen_nil)))))) (ra_cons (re_bin op_addV ov_add (RE.rb re_int) (RE.rb (re_call j (FnA.mono (ok__law_roll Z TB) (by omega)) hr (ha := (ra_cons (re_var 0) (ra_cons re_int ra_nil))) (hl := (alen_cons (alen_cons alen_nil)))))) ra_nil)))))))
def C__law_towards_1 : SE := (eLc (iZip (eVar 0) (eVar 1)) (tT (tsC tN (tsC tN tsN))) [3, 4] [3, 4] tYesS (eB2 (eB2 (eVarB 3) (eVarB 2) vSub) (eB2 (eVarB 4) (eB2 (eVarB 3) (eVarB 2) vAdd) vMin2) vMax2))
def B__law_towards : SS := (sRet (eB1 C__law_towards_1 vTup))
def F__law_towards : List Va → Cv → Re Va := runF 5 false B__law_towards
theorem ok__law_towards {P : Program} {w : World} {K : PySem.W.Frag} {mg : Str → Option Value} {base : Heap} (Z : Fx K mg) (TB : Tq Z base) : FnA P w K mg base (L2N.CX P w) 1 "_law_towards" Z.a__law_towards Z.fd__law_towards ["key", "other", "far"] (spG ⟨K, mg, Z.Tb, none, none, none⟩ 3 false F__law_towards) :=
  fn_A Z.d__law_towards (N := ["key", "other", "far", "one", "two"]) (k := 0) (fb := B__law_towards) (by decide +kernel) (by decide) fun cdv A outer s H E hr j => (rss_one (rs_ret (re_t1 call_tuple_of uc_tup (RE.rb (RF.re (rf_lc [("one", 3), ("two", 4)] j (ri_zip (re_var 0) (re_var 1) Z.b_zip) (by kernel_rfl) (fun s H C cl fp j1 => (rg_tup (rgs_cons (rg_name j1.nd 3) (rgs_cons (rg_name j1.nd 4) rgs_nil)) (hl := (tsC_len (tsC_len (fun _ _ h => tsN_len h)))))) (fun s H C cl fp j1 => rts_nil) (fun s H C cl fp j1 => (re_b2 (call_max2 rfl) ov_max2 (RE.rb (re_bin op_subV ov_i2 (rb_var 3) (rb_var 2))) (RE.rb (re_b2 (call_min2 rfl) ov_min2 (rb_var 4) (RE.rb (re_bin op_addV ov_add (rb_var 3) (rb_var 2))) Z.b_min)) Z.b_max))))) Z.b_tuple)))
def C__law_is_row_1 : SE := (eLc (iVal (eVar 4)) tN [5] [5] (tNot (tV (callS F__law_is_key (aCons (eVar 0) (aCons (eVar 5) aNil))))) (eVar 5))
def C__law_is_row_2 : SE := (eLc (iZip (eVar 4) (eSl (eVarB 4) (oSome (eK (.int 1))) oNone vSl)) (tT (tsC tN (tsC tN tsN))) [6, 7] [6, 7] (tV (eB2 (callS F__law_far (aCons (eVar 6) (aCons (eVar 7) aNil))) (eVarB 3) vGt)) (eK (.int 1)))
def B__law_is_row : SS := (sSeq (sIf (tOr (tNot (tV (eB1 (eVarB 4) (vIsi .tuple)))) (tOr (tNot (tV (eChain (eK (.int 0)) (eB1 (eVarB 4) vLen) (eK (.int 102)) vLt vLt))) (tV (eB2 C__law_is_row_1 (eLst aNil) vNe)))) (sRet (eK (.bl false))) sNext)
  (sSeq (sIf (tOr (tV (eB2 (eB2 (eVarB 4) (eK (.int 0)) vIx) (eVarB 1) vNe)) (tV (eB2 (eB2 (eVarB 4) (eB1 (eK (.int 1)) vNeg) vIx) (eVarB 2) vNe))) (sRet (eK (.bl false))) sNext)
  (sRet (eB2 C__law_is_row_2 (eLst aNil) vEq))))
def F__law_is_row : List Va → Cv → Re Va := runF 8 false B__law_is_row
theorem ok__law_is_row {P : Program} {w : World} {K : PySem.W.Frag} {mg : Str → Option Value} {base : Heap} (Z : Fx K mg) (TB : Tq Z base) : FnA P w K mg base (L2N.CX P w) 2 "_law_is_row" Z.a__law_is_row Z.fd__law_is_row ["make", "key", "other", "fault", "value"] (spG ⟨K, mg, Z.Tb, none, none, none⟩ 5 false F__law_is_row) :=
  fn_A Z.d__law_is_row (N := ["make", "key", "other", "fault", "value", "own", "one", "two"]) (k := 1) (fb := B__law_is_row) (by decide +kernel) (by decide) fun cdv A outer s H E hr j => (rss_cons (rs_if (RW.rt (rw_or (rt_not (rt_val (re_isi .tuple (rb_var 4) Z.b_isinstance Z.b_tuple))) (rw_or (rt_not (rt_chain (op_ltP j) ov_lt (op_ltP j) ov_lt (RE.rb re_int) (RE.rb (re_b1 call_lenV uc_len (rb_var 4) Z.b_len)) (RE.rb re_int))) (rw_or1 (rt_cmp (op_neP j) ov_ne (RE.rb (RF.re (rf_lc [("own", 5)] j (ri_val (re_var 4)) (by kernel_rfl) (fun s H C cl fp j1 => (rg_name j1.nd 5)) (fun s H C cl fp j1 => (rts_one (rt_not (rt_val (re_call j1 (FnA.mono (ok__law_is_key Z TB) (by omega)) hr (ha := (ra_cons (re_var 0) (ra_cons (re_var 5) ra_nil))) (hl := (alen_cons (alen_cons alen_nil)))))))) (fun s H C cl fp j1 => (re_var 5))))) (RE.rb (RF.re (rf_lst ra_nil))) rfl))))) (rss_one (rs_ret re_bl)) rss_nil)
  (rss_cons (rs_if (RW.rt (rw_or (rt_cmp (op_neP j) ov_ne (RE.rb (re_ix j (rb_var 4) (RE.rb re_int))) (rb_var 1) rfl) (rw_or1 (rt_cmp (op_neP j) ov_ne (RE.rb (re_ix j (rb_var 4) (RE.rb (re_neg (RE.rb re_int))))) (rb_var 2) rfl)))) (rss_one (rs_ret re_bl)) rss_nil)
  (rss_one (rs_ret (re_cmp (op_eqP j) ov_eq (RE.rb (RF.re (rf_lc [("one", 6), ("two", 7)] j (ri_zip (re_var 4) (re_sl (rb_var 4) (ro_some re_int) ro_none) Z.b_zip) (by kernel_rfl) (fun s H C cl fp j1 => (rg_tup (rgs_cons (rg_name j1.nd 6) (rgs_cons (rg_name j1.nd 7) rgs_nil)) (hl := (tsC_len (tsC_len (fun _ _ h => tsN_len h)))))) (fun s H C cl fp j1 => (rts_one (rt_cmp (op_gtP j1) ov_gt (RE.rb (re_call j1 (FnA.mono (ok__law_far Z TB) (by omega)) hr (ha := (ra_cons (re_var 6) (ra_cons (re_var 7) ra_nil))) (hl := (alen_cons (alen_cons alen_nil))))) (rb_var 3) rfl))) (fun s H C cl fp j1 => re_int)))) (RE.rb (RF.re (rf_lst ra_nil))) rfl)))))
def C__law_right_1 : SE := (eLc (iRange1 (eB2 (eVarB 6) (eK (.int 1)) vAdd)) tN [9] [9] tYesS (callS F__law_towards (aCons (eVar 2) (aCons (eVar 3) (aCons (eB2 (eVarB 4) (eVarB 9) vMulW) aNil)))))
def L__law_right_1 : SS := (sIf (tNot (tV (callS (F__law_same 8) (aCons (callS F_is_copy_row (aCons (eVar 1) (aCons (eVar 2) (aCons (eVar 3) (aCons (eVar 4) (aCons (eVar 13) aNil)))))) (aCons (callS F__law_is_row (aCons (eVar 1) (aCons (eVar 2) (aCons (eVar 3) (aCons (eVar 4) (aCons (eVar 13) aNil)))))) aNil))))) (sRet (eK (.bl false))) sNext)
def B__law_right : SS := (sSeq (sVal 5 (callS F__law_far (aCons (eVar 2) (aCons (eVar 3) aNil))))
  (sSeq (sVal 6 (eIf (tV (eB2 (eVarB 5) (eK (.int 0)) vEq)) (eK (.int 0)) (eIf (tV (eB2 (eVarB 4) (eK (.int 0)) vEq)) (eK .non) (eB1 (eB2 (eB1 (eVarB 5) vNeg) (eVarB 4) vDiv) vNeg))))
  (sSeq (sVal 7 (callS F_copy_row (aCons (eVar 1) (aCons (eVar 2) (aCons (eVar 3) (aCons (eVar 4) aNil))))))
  (sSeq (sIf (tNot (tV (callS (F__law_same 8) (aCons (eTup (aCons (callS F_copies_needed (aCons (eVar 1) (aCons (eVar 2) (aCons (eVar 3) (aCons (eVar 4) aNil))))) (aCons (callS F_copies_needed (aCons (eVar 1) (aCons (eVar 3) (aCons (eVar 2) (aCons (eVar 4) aNil))))) aNil))) (aCons (eTup (aCons (eVar 6) (aCons (eVar 6) aNil))) aNil))))) (sRet (eK (.bl false))) sNext)
  (sSeq (sIf (tOr (tV (eB2 (eVarB 6) (eK .non) vIs)) (tV (eB2 (eVarB 6) (eK (.int 100)) vGt))) (sRet (eIf (tV (eB2 (eVarB 6) (eK .non) vIs)) (eB2 (eVarB 7) (eK .non) vIs) (eK (.bl true)))) sNext)
  (sSeq (sVal 8 (eB1 C__law_right_1 vTup))
  (sSeq (sIf (tOr (tNot (tV (callS F__law_is_row (aCons (eVar 1) (aCons (eVar 2) (aCons (eVar 3) (aCons (eVar 4) (aCons (eVar 8) aNil)))))))) (tOr (tNot (tV (callS F__law_is_row (aCons (eVar 1) (aCons (eVar 2) (aCons (eVar 3) (aCons (eVar 4) (aCons (eVar 7) aNil)))))))) (tV (eB2 (eB1 (eVarB 7) vLen) (eB2 (eVarB 6) (eK (.int 1)) vAdd) vNe)))) (sRet (eK (.bl false))) sNext)
  (sSeq (sVal 10 (callS F__law_roll (aCons (eVar 0) (aCons (eB1 (eVarB 8) vLen) aNil))))
  (sSeq (sVal 11 (callS F__law_key (aCons (eVar 0) (aCons (eVar 1) aNil))))
  (sSeq (sVal 12 (eLst (aCons (eVar 8) (aCons (eVar 7) (aCons (eSt (eVarB 8) oNone oNone (oSome (eB1 (eK (.int 1)) vNeg))) (aCons (eSl (eVarB 8) (oSome (eK (.int 1))) oNone vSl) (aCons (eSl (eVarB 8) oNone (oSome (eB1 (eK (.int 1)) vNeg)) vSl) (aCons (eB2 (eVarB 8) (eSl (eVarB 8) (oSome (eB1 (eK (.int 1)) vNeg)) oNone vSl) vAdd) (aCons (eB2 (eB2 (eSl (eVarB 8) oNone (oSome (eVar 10)) vSl) (eTup (aCons (eB2 (eVarB 8) (eVarB 10) vIx) aNil)) vAdd) (eSl (eVarB 8) (oSome (eVar 10)) oNone vSl) vAdd) (aCons (eB2 (eB2 (eSl (eVarB 8) oNone (oSome (eVar 10)) vSl) (eTup (aCons (eVar 11) aNil)) vAdd) (eSl (eVarB 8) (oSome (eVar 10)) oNone vSl) vAdd) (aCons (eB1 (eVarB 8) vLstOf) aNil)))))))))))
  (sSeq (sVal 12 (eB2 (eVarB 12) (eLst (aCons (eB2 (eB2 (eSl (eVarB 8) oNone (oSome (eVar 10)) vSl) (eTup (aCons (eB1 (eB2 (eVarB 8) (eVarB 10) vIx) vLstOf) aNil)) vAdd) (eSl (eVarB 8) (oSome (eB2 (eVarB 10) (eK (.int 1)) vAdd)) oNone vSl) vAdd) (aCons (eB2 (eB2 (eSl (eVarB 8) oNone (oSome (eVar 10)) vSl) (eTup (aCons (eK .non) aNil)) vAdd) (eSl (eVarB 8) (oSome (eB2 (eVarB 10) (eK (.int 1)) vAdd)) oNone vSl) vAdd) (aCons (eB2 (eB2 (eSl (eVarB 8) oNone (oSome (eVar 10)) vSl) (eTup (aCons (eSl (eB2 (eVarB 8) (eVarB 10) vIx) (oSome (eK (.int 1))) oNone vSl) aNil)) vAdd) (eSl (eVarB 8) (oSome (eB2 (eVarB 10) (eK (.int 1)) vAdd)) oNone vSl) vAdd) aNil)))) vAdd))
  (sSeq (sVal 12 (eB2 (eVarB 12) (eLst (aCons (eK .non) (aCons (eTup aNil) (aCons (eVar 2) (aCons (eB2 (eB2 (eTup (aCons (eVar 2) aNil)) (eK (.int 101)) vMulW) (eSl (eVarB 8) (oSome (eK (.int 1))) oNone vSl) vAdd) (aCons (eB2 (eB2 (eTup (aCons (eVar 2) aNil)) (eB2 (eK (.int 101)) (eVarB 6) vSub) vMulW) (eSl (eVarB 8) (oSome (eK (.int 1))) oNone vSl) vAdd) (aCons (eB2 (eB2 (eSl (eVarB 8) oNone (oSome (eVar 10)) vSl) (eTup (aCons (eB2 (eTup (aCons (eB2 (eVarB 1) (eK (.int 1)) vIx) aNil)) (eB2 (eVarB 1) (eK (.int 0)) vIx) vMulW) aNil)) vAdd) (eSl (eVarB 8) (oSome (eVar 10)) oNone vSl) vAdd) aNil))))))) vAdd))
  (sSeq (sFor (iVal (eVar 12)) tN [13] L__law_right_1)
  (sRet (eK (.bl true))))))))))))))))
def F__law_right : List Va → Cv → Re Va := runF 14 false B__law_right
theorem ok__law_right {P : Program} {w : World} {K : PySem.W.Frag} {mg : Str → Option Value} {base : Heap} (Z : Fx K mg) (TB : Tq Z base) : FnA P w K mg base (L2N.CX P w) 10 "_law_right" Z.a__law_right Z.fd__law_right ["cup", "make", "key", "other", "fault"] (spG ⟨K, mg, Z.Tb, none, none, none⟩ 5 false F__law_right) :=
  fn_A Z.d__law_right (N := ["cup", "make", "key", "other", "fault", "far", "due", "told", "own", "turn", "at", "odd", "values", "value"]) (k := 9) (fb := B__law_right) (by decide +kernel) (by decide) fun cdv A outer s H E hr j => (rss_cons (rs_val j 5 (re_call j (FnA.mono (ok__law_far Z TB) (by omega)) hr (ha := (ra_cons (re_var 2) (ra_cons (re_var 3) ra_nil))) (hl := (alen_cons (alen_cons alen_nil)))))
  (rss_cons (rs_val j 6 (re_if (rt_cmp (op_eqP j) ov_eq (rb_var 5) (RE.rb re_int) rfl) re_int (re_if (rt_cmp (op_eqP j) ov_eq (rb_var 4) (RE.rb re_int) rfl) re_non (re_neg (RE.rb (re_bin op_divV ov_i2 (RE.rb (re_neg (rb_var 5))) (rb_var 4)))))))
  (rss_cons (rs_val j 7 (re_call j (FnA.mono (ok_copy_row Z TB) (by omega)) hr (ha := (ra_cons (re_var 1) (ra_cons (re_var 2) (ra_cons (re_var 3) (ra_cons (re_var 4) ra_nil))))) (hl := (alen_cons (alen_cons (alen_cons (alen_cons alen_nil)))))))
  (rss_cons (rs_if (rt_not (rt_val (re_call j (FnA.mono (ok__law_same Z TB 8) (by omega)) hr (ha := (ra_cons (re_tup (ra_cons (re_call j (FnA.mono (ok_copies_needed Z TB) (by omega)) hr (ha := (ra_cons (re_var 1) (ra_cons (re_var 2) (ra_cons (re_var 3) (ra_cons (re_var 4) ra_nil))))) (hl := (alen_cons (alen_cons (alen_cons (alen_cons alen_nil)))))) (ra_cons (re_call j (FnA.mono (ok_copies_needed Z TB) (by omega)) hr (ha := (ra_cons (re_var 1) (ra_cons (re_var 3) (ra_cons (re_var 2) (ra_cons (re_var 4) ra_nil))))) (hl := (alen_cons (alen_cons (alen_cons (alen_cons alen_nil)))))) ra_nil))) (ra_cons (re_tup (ra_cons (re_var 6) (ra_cons (re_var 6) ra_nil))) ra_nil))) (hl := (alen_cons (alen_cons alen_nil)))))) (rss_one (rs_ret re_bl)) rss_nil)
  (rss_cons (rs_if (RW.rt (rw_or (rt_cmp op_isV ov_is (rb_var 6) (RE.rb re_non) rfl) (rw_or1 (rt_cmp (op_gtP j) ov_gt (rb_var 6) (RE.rb re_int) rfl)))) (rss_one (rs_ret (re_if (rt_cmp op_isV ov_is (rb_var 6) (RE.rb re_non) rfl) (re_cmp op_isV ov_is (rb_var 7) (RE.rb re_non) rfl) re_bl))) rss_nil)
  (rss_cons (rs_val j 8 (re_t1 call_tuple_of uc_tup (RE.rb (RF.re (rf_lc [("turn", 9)] j (ri_range1 (re_bin op_addV ov_add (rb_var 6) (RE.rb re_int)) Z.b_range) (by kernel_rfl) (fun s H C cl fp j1 => (rg_name j1.nd 9)) (fun s H C cl fp j1 => rts_nil) (fun s H C cl fp j1 => (re_call j1 (FnA.mono (ok__law_towards Z TB) (by omega)) hr (ha := (ra_cons (re_var 2) (ra_cons (re_var 3) (ra_cons (re_bin op_mulW ov_mulW (rb_var 4) (rb_var 9)) ra_nil)))) (hl := (alen_cons (alen_cons (alen_cons alen_nil))))))))) Z.b_tuple))
  (rss_cons (rs_if (RW.rt (rw_or (rt_not (rt_val (re_call j (FnA.mono (ok__law_is_row Z TB) (by omega)) hr (ha := (ra_cons (re_var 1) (ra_cons (re_var 2) (ra_cons (re_var 3) (ra_cons (re_var 4) (ra_cons (re_var 8) ra_nil)))))) (hl := (alen_cons (alen_cons (alen_cons (alen_cons (alen_cons alen_nil))))))))) (rw_or (rt_not (rt_val (re_call j (FnA.mono (ok__law_is_row Z TB) (by omega)) hr (ha := (ra_cons (re_var 1) (ra_cons (re_var 2) (ra_cons (re_var 3) (ra_cons (re_var 4) (ra_cons (re_var 7) ra_nil)))))) (hl := (alen_cons (alen_cons (alen_cons (alen_cons (alen_cons alen_nil))))))))) (rw_or1 (rt_cmp (op_neP j) ov_ne (RE.rb (re_b1 call_lenV uc_len (rb_var 7) Z.b_len)) (RE.rb (re_bin op_addV ov_add (rb_var 6) (RE.rb re_int))) rfl))))) (rss_one (rs_ret re_bl)) rss_nil)
  (rss_cons (rs_val j 10 (re_call j (FnA.mono (ok__law_roll Z TB) (by omega)) hr (ha := (ra_cons (re_var 0) (ra_cons (re_b1 call_lenV uc_len (rb_var 8) Z.b_len) ra_nil))) (hl := (alen_cons (alen_cons alen_nil)))))
  (rss_cons (rs_val j 11 (re_call j (FnA.mono (ok__law_key Z TB) (by omega)) hr (ha := (ra_cons (re_var 0) (ra_cons (re_var 1) ra_nil))) (hl := (alen_cons (alen_cons alen_nil)))))
  (rss_cons (rs_val j 12 (RF.re (rf_lst (ra_cons (re_var 8) (ra_cons (re_var 7) (ra_cons (re_step (rb_var 8) ro_none ro_none (ro_some (re_neg (RE.rb re_int)))) (ra_cons (re_sl (rb_var 8) (ro_some re_int) ro_none) (ra_cons (re_sl (rb_var 8) ro_none (ro_some (re_neg (RE.rb re_int)))) (ra_cons (re_bin op_addV ov_add (rb_var 8) (RE.rb (re_sl (rb_var 8) (ro_some (re_neg (RE.rb re_int))) ro_none))) (ra_cons (re_bin op_addV ov_add (RE.rb (re_bin op_addV ov_add (RE.rb (re_sl (rb_var 8) ro_none (ro_some (re_var 10)))) (RE.rb (re_tup (ra_cons (re_ix j (rb_var 8) (rb_var 10)) ra_nil))))) (RE.rb (re_sl (rb_var 8) (ro_some (re_var 10)) ro_none))) (ra_cons (re_bin op_addV ov_add (RE.rb (re_bin op_addV ov_add (RE.rb (re_sl (rb_var 8) ro_none (ro_some (re_var 10)))) (RE.rb (re_tup (ra_cons (re_var 11) ra_nil))))) (RE.rb (re_sl (rb_var 8) (ro_some (re_var 10)) ro_none))) (ra_cons (RF.re (rf_t1 (call_listV rfl) ud_lst (rb_var 8) Z.b_list)) ra_nil))))))))))))
  (rss_cons (rs_val j 12 (re_bin op_addV ov_add (rb_var 12) (RE.rb (RF.re (rf_lst (ra_cons (re_bin op_addV ov_add (RE.rb (re_bin op_addV ov_add (RE.rb (re_sl (rb_var 8) ro_none (ro_some (re_var 10)))) (RE.rb (re_tup (ra_cons (RF.re (rf_t1 (call_listV rfl) ud_lst (RE.rb (re_ix j (rb_var 8) (rb_var 10))) Z.b_list)) ra_nil))))) (RE.rb (re_sl (rb_var 8) (ro_some (re_bin op_addV ov_add (rb_var 10) (RE.rb re_int))) ro_none))) (ra_cons (re_bin op_addV ov_add (RE.rb (re_bin op_addV ov_add (RE.rb (re_sl (rb_var 8) ro_none (ro_some (re_var 10)))) (RE.rb (re_tup (ra_cons re_non ra_nil))))) (RE.rb (re_sl (rb_var 8) (ro_some (re_bin op_addV ov_add (rb_var 10) (RE.rb re_int))) ro_none))) (ra_cons (re_bin op_addV ov_add (RE.rb (re_bin op_addV ov_add (RE.rb (re_sl (rb_var 8) ro_none (ro_some (re_var 10)))) (RE.rb (re_tup (ra_cons (re_sl (RE.rb (re_ix j (rb_var 8) (rb_var 10))) (ro_some re_int) ro_none) ra_nil))))) (RE.rb (re_sl (rb_var 8) (ro_some (re_bin op_addV ov_add (rb_var 10) (RE.rb re_int))) ro_none))) ra_nil))))))))
  (rss_cons (rs_val j 12 (re_bin op_addV ov_add (rb_var 12) (RE.rb (RF.re (rf_lst (ra_cons re_non (ra_cons (re_tup ra_nil) (ra_cons (re_var 2) (ra_cons (re_bin op_addV ov_add (RE.rb (re_bin op_mulW ov_mulW (RE.rb (re_tup (ra_cons (re_var 2) ra_nil))) (RE.rb re_int))) (RE.rb (re_sl (rb_var 8) (ro_some re_int) ro_none))) (ra_cons (re_bin op_addV ov_add (RE.rb (re_bin op_mulW ov_mulW (RE.rb (re_tup (ra_cons (re_var 2) ra_nil))) (RE.rb (re_bin op_subV ov_i2 (RE.rb re_int) (rb_var 6))))) (RE.rb (re_sl (rb_var 8) (ro_some re_int) ro_none))) (ra_cons (re_bin op_addV ov_add (RE.rb (re_bin op_addV ov_add (RE.rb (re_sl (rb_var 8) ro_none (ro_some (re_var 10)))) (RE.rb (re_tup (ra_cons (re_bin op_mulW ov_mulW (RE.rb (re_tup (ra_cons (re_ix j (rb_var 1) (RE.rb re_int)) ra_nil))) (RE.rb (re_ix j (rb_var 1) (RE.rb re_int)))) ra_nil))))) (RE.rb (re_sl (rb_var 8) (ro_some (re_var 10)) ro_none))) ra_nil)))))))))))
  (rss_cons (rs_for j (ri_val (re_var 12)) (rg_name j.nd 13) (rss_one (rs_if (rt_not (rt_val (re_call j (FnA.mono (ok__law_same Z TB 8) (by omega)) hr (ha := (ra_cons (re_call j (FnA.mono (ok_is_copy_row Z TB) (by omega)) hr (ha := (ra_cons (re_var 1) (ra_cons (re_var 2) (ra_cons (re_var 3) (ra_cons (re_var 4) (ra_cons (re_var 13) ra_nil)))))) (hl := (alen_cons (alen_cons (alen_cons (alen_cons (alen_cons alen_nil))))))) (ra_cons (re_call j (FnA.mono (ok__law_is_row Z TB) (by omega)) hr (ha := (ra_cons (re_var 1) (ra_cons (re_var 2) (ra_cons (re_var 3) (ra_cons (re_var 4) (ra_cons (re_var 13) ra_nil)))))) (hl := (alen_cons (alen_cons (alen_cons (alen_cons (alen_cons alen_nil))))))) ra_nil))) (hl := (alen_cons (alen_cons alen_nil)))))) (rss_one (rs_ret re_bl)) rss_nil)))
  (rss_one (rs_ret re_bl)))))))))))))))
def L__law_common_right_1 : SS := (sSeq (sVal 10 (eAnd (callS F__law_is_key (aCons (eVar 1) (aCons (eVar 9) aNil))) (eB2 (eB2 (callS F__law_far (aCons (eVar 2) (aCons (eVar 9) aNil))) (callS F__law_far (aCons (eVar 3) (aCons (eVar 9) aNil))) vMax2) (eB2 (eVarB 4) (eVarB 7) vMulW) vLe)))
  (sIf (tNot (tV (callS (F__law_same 8) (aCons (callS F_is_common_copy (aCons (eVar 1) (aCons (eVar 2) (aCons (eVar 3) (aCons (eVar 4) (aCons (eVar 7) (aCons (eVar 9) aNil))))))) (aCons (eVar 10) aNil))))) (sRet (eK (.bl false))) sNext))
def L__law_common_right_2 : SS := (sIf (tV (eChain (eK (.int 0)) (eVarB 7) (eK (.int 101)) vLe vLt)) (sSeq (sVal 8 (callS F_common_copy (aCons (eVar 1) (aCons (eVar 2) (aCons (eVar 3) (aCons (eVar 4) (aCons (eVar 7) aNil)))))))
  (sSeq (sIf (tV (eB2 (eB2 (eVarB 8) (eK .non) vIs) (eB2 (eVarB 7) (eVarB 6) vLt) vNe)) (sRet (eK (.bl false))) sNext)
  (sSeq (sIf (tAnd (tV (eB2 (eVarB 8) (eK .non) vIsN)) (tOr (tNot (tV (callS F__law_is_key (aCons (eVar 1) (aCons (eVar 8) aNil))))) (tV (eB2 (eB2 (callS F__law_far (aCons (eVar 2) (aCons (eVar 8) aNil))) (callS F__law_far (aCons (eVar 3) (aCons (eVar 8) aNil))) vMax2) (eB2 (eVarB 4) (eVarB 7) vMulW) vGt)))) (sRet (eK (.bl false))) sNext)
  (sFor (iVal (eTup (aCons (eVar 8) (aCons (eVar 2) (aCons (eVar 3) (aCons (callS F__law_key (aCons (eVar 0) (aCons (eVar 1) aNil))) (aCons (eK .non) (aCons (eB1 (eVarB 2) vLstOf) (aCons (eSl (eVarB 2) (oSome (eK (.int 1))) oNone vSl) (aCons (eB2 (eSl (eVarB 2) oNone (oSome (eB1 (eK (.int 1)) vNeg)) vSl) (eTup (aCons (eK (.bl true)) aNil)) vAdd) (aCons (eK (.int 5)) (aCons (eB2 (eTup (aCons (eB2 (eK (.int 10)) (eK (.int 40)) vPow) aNil)) (eB2 (eVarB 1) (eK (.int 0)) vIx) vMulW) aNil)))))))))))) tN [9] L__law_common_right_1)))) sNext)
def B__law_common_right : SS := (sSeq (sVal 5 (callS F__law_far (aCons (eVar 2) (aCons (eVar 3) aNil))))
  (sSeq (sVal 6 (eIf (tV (eB2 (eVarB 5) (eK (.int 0)) vEq)) (eK (.int 0)) (eIf (tV (eB2 (eVarB 4) (eK (.int 0)) vEq)) (eK (.int 101)) (eB1 (eB2 (eB1 (eVarB 5) vNeg) (eB2 (eK (.int 2)) (eVarB 4) vMulW) vDiv) vNeg))))
  (sSeq (sFor (iVal (eTup (aCons (eK (.int 0)) (aCons (eB2 (eVarB 6) (eK (.int 1)) vSub) (aCons (eVar 6) (aCons (eB2 (eVarB 6) (eK (.int 1)) vAdd) (aCons (callS F__law_roll (aCons (eVar 0) (aCons (eK (.int 101)) aNil))) (aCons (eK (.int 100)) aNil)))))))) tN [7] L__law_common_right_2)
  (sRet (eK (.bl true))))))
def F__law_common_right : List Va → Cv → Re Va := runF 11 false B__law_common_right
theorem ok__law_common_right {P : Program} {w : World} {K : PySem.W.Frag} {mg : Str → Option Value} {base : Heap} (Z : Fx K mg) (TB : Tq Z base) : FnA P w K mg base (L2N.CX P w) 10 "_law_common_right" Z.a__law_common_right Z.fd__law_common_right ["cup", "make", "key", "other", "fault"] (spG ⟨K, mg, Z.Tb, none, none, none⟩ 5 false F__law_common_right) :=
  fn_A Z.d__law_common_right (N := ["cup", "make", "key", "other", "fault", "far", "least", "many", "told", "value", "good"]) (k := 9) (fb := B__law_common_right) (by decide +kernel) (by decide) fun cdv A outer s H E hr j => (rss_cons (rs_val j 5 (re_call j (FnA.mono (ok__law_far Z TB) (by omega)) hr (ha := (ra_cons (re_var 2) (ra_cons (re_var 3) ra_nil))) (hl := (alen_cons (alen_cons alen_nil)))))
  (rss_cons (rs_val j 6 (re_if (rt_cmp (op_eqP j) ov_eq (rb_var 5) (RE.rb re_int) rfl) re_int (re_if (rt_cmp (op_eqP j) ov_eq (rb_var 4) (RE.rb re_int) rfl) re_int (re_neg (RE.rb (re_bin op_divV ov_i2 (RE.rb (re_neg (rb_var 5))) (RE.rb (re_bin op_mulW ov_mulW (RE.rb re_int) (rb_var 4)))))))))
  (rss_cons (rs_for j (ri_val (re_tup (ra_cons re_int (ra_cons (re_bin op_subV ov_i2 (rb_var 6) (RE.rb re_int)) (ra_cons (re_var 6) (ra_cons (re_bin op_addV ov_add (rb_var 6) (RE.rb re_int)) (ra_cons (re_call j (FnA.mono (ok__law_roll Z TB) (by omega)) hr (ha := (ra_cons (re_var 0) (ra_cons re_int ra_nil))) (hl := (alen_cons (alen_cons alen_nil)))) (ra_cons re_int ra_nil)))))))) (rg_name j.nd 7) (rss_one (rs_if (rt_chain (op_leP j) ov_le (op_ltP j) ov_lt (RE.rb re_int) (rb_var 7) (RE.rb re_int)) (rss_cons (rs_val j 8 (re_call j (FnA.mono (ok_common_copy Z TB) (by omega)) hr (ha := (ra_cons (re_var 1) (ra_cons (re_var 2) (ra_cons (re_var 3) (ra_cons (re_var 4) (ra_cons (re_var 7) ra_nil)))))) (hl := (alen_cons (alen_cons (alen_cons (alen_cons (alen_cons alen_nil))))))))
  (rss_cons (rs_if (rt_cmp (op_neP j) ov_ne (RE.rb (re_cmp op_isV ov_is (rb_var 8) (RE.rb re_non) rfl)) (RE.rb (re_cmp (op_ltP j) ov_lt (rb_var 7) (rb_var 6) rfl)) rfl) (rss_one (rs_ret re_bl)) rss_nil)
  (rss_cons (rs_if (RW.rt (rw_and (rt_cmp op_isNV ov_isN (rb_var 8) (RE.rb re_non) rfl) (rw_and1 (RW.rt (rw_or (rt_not (rt_val (re_call j (FnA.mono (ok__law_is_key Z TB) (by omega)) hr (ha := (ra_cons (re_var 1) (ra_cons (re_var 8) ra_nil))) (hl := (alen_cons (alen_cons alen_nil)))))) (rw_or1 (rt_cmp (op_gtP j) ov_gt (RE.rb (re_b2 (call_max2 rfl) ov_max2 (RE.rb (re_call j (FnA.mono (ok__law_far Z TB) (by omega)) hr (ha := (ra_cons (re_var 2) (ra_cons (re_var 8) ra_nil))) (hl := (alen_cons (alen_cons alen_nil))))) (RE.rb (re_call j (FnA.mono (ok__law_far Z TB) (by omega)) hr (ha := (ra_cons (re_var 3) (ra_cons (re_var 8) ra_nil))) (hl := (alen_cons (alen_cons alen_nil))))) Z.b_max)) (RE.rb (re_bin op_mulW ov_mulW (rb_var 4) (rb_var 7))) rfl))))))) (rss_one (rs_ret re_bl)) rss_nil)
  (rss_one (rs_for j (ri_val (re_tup (ra_cons (re_var 8) (ra_cons (re_var 2) (ra_cons (re_var 3) (ra_cons (re_call j (FnA.mono (ok__law_key Z TB) (by omega)) hr (ha := (ra_cons (re_var 0) (ra_cons (re_var 1) ra_nil))) (hl := (alen_cons (alen_cons alen_nil)))) (ra_cons re_non (ra_cons (RF.re (rf_t1 (call_listV rfl) ud_lst (rb_var 2) Z.b_list)) (ra_cons (re_sl (rb_var 2) (ro_some re_int) ro_none) (ra_cons (re_bin op_addV ov_add (RE.rb (re_sl (rb_var 2) ro_none (ro_some (re_neg (RE.rb re_int))))) (RE.rb (re_tup (ra_cons re_bl ra_nil)))) (ra_cons re_int (ra_cons (re_bin op_mulW ov_mulW (RE.rb (re_tup (ra_cons (re_bin op_powV ov_i2 (RE.rb re_int) (RE.rb re_int)) ra_nil))) (RE.rb (re_ix j (rb_var 1) (RE.rb re_int)))) ra_nil)))))))))))) (rg_name j.nd 9) (rss_cons (rs_val j 10 (re_and (re_call j (FnA.mono (ok__law_is_key Z TB) (by omega)) hr (ha := (ra_cons (re_var 1) (ra_cons (re_var 9) ra_nil))) (hl := (alen_cons (alen_cons alen_nil)))) (re_one (re_cmp (op_leP j) ov_le (RE.rb (re_b2 (call_max2 rfl) ov_max2 (RE.rb (re_call j (FnA.mono (ok__law_far Z TB) (by omega)) hr (ha := (ra_cons (re_var 2) (ra_cons (re_var 9) ra_nil))) (hl := (alen_cons (alen_cons alen_nil))))) (RE.rb (re_call j (FnA.mono (ok__law_far Z TB) (by omega)) hr (ha := (ra_cons (re_var 3) (ra_cons (re_var 9) ra_nil))) (hl := (alen_cons (alen_cons alen_nil))))) Z.b_max)) (RE.rb (re_bin op_mulW ov_mulW (rb_var 4) (rb_var 7))) rfl))))
  (rss_one (rs_if (rt_not (rt_val (re_call j (FnA.mono (ok__law_same Z TB 8) (by omega)) hr (ha := (ra_cons (re_call j (FnA.mono (ok_is_common_copy Z TB) (by omega)) hr (ha := (ra_cons (re_var 1) (ra_cons (re_var 2) (ra_cons (re_var 3) (ra_cons (re_var 4) (ra_cons (re_var 7) (ra_cons (re_var 9) ra_nil))))))) (hl := (alen_cons (alen_cons (alen_cons (alen_cons (alen_cons (alen_cons alen_nil)))))))) (ra_cons (re_var 10) ra_nil))) (hl := (alen_cons (alen_cons alen_nil)))))) (rss_one (rs_ret re_bl)) rss_nil)))))))) rss_nil)))
  (rss_one (rs_ret re_bl)))))
def B__law_word (B : Cv → Re Va) : SS := (sSeq (sTry sup (sDrop (eLam 0 B)) (("TooMany", 1, (fun _ _ => .stk)) :: (("PinsError", 1, (sSeq (sIf (tV (eIsE sup 1 "InvalidMake")) (sRet (eK (.str "make"))) sNext)
  (sRet (eIf (tV (eIsE sup 1 "InvalidKey")) (eK (.str "key")) (eIf (tV (eIsE sup 1 "InvalidNumber")) (eK (.str "number")) (eK (.str "other"))))))) :: [])))
  (sRet (eK (.str ""))))
def NL__law_word : Nat := 2
theorem ok__law_word {P : Program} {w : World} {K : PySem.W.Frag} {mg : Str → Option Value} {base : Heap} {k : Nat} (Z : Fx K mg) : LamFn P w K mg base k "_law_word" "call" Z.a__law_word Z.fd__law_word (top 47) ["call", "error"] B__law_word where
  F := Z.d__law_word.F
  S := C8.fnScope_by (by decide +kernel)
  n0 := rfl
  va := .inl rfl
  mgf := Z.d__law_word.mgf
  bi := Z.d__law_word.bi
  d1 := by decide
  d2 := by decide
  d3 := by decide
  body := fun cdv A outer s H E B T hr j act => (rss_cons (rs_try j rfl rfl Z.sup (fun W pn xe jt => (rss_one (rs_drop (act W pn xe _ _ jt)))) (HdsG.cons rfl (by decide) rfl rfl Z.x_TooMany.mgc (fun a oe e C pn h1 h2 h3 => rss_never) (HdsG.cons rfl (by decide) rfl rfl Z.x_PinsError.mgc (fun a oe e C pn h1 h2 h3 => (rss_cons (rs_if (rt_val (re_isE Z.sup 1 h1 h2 h3 Z.b_isinstance)) (rss_one (rs_ret re_str)) rss_nil)
  (rss_one (rs_ret (re_if (rt_val (re_isE Z.sup 1 h1 h2 h3 Z.b_isinstance)) re_str (re_if (rt_val (re_isE Z.sup 1 h1 h2 h3 Z.b_isinstance)) re_str re_str)))))) .nil)))
  (rss_one (rs_ret re_str)))
def C_law_1 : SE := (eLc (iVal (eTup (aCons (eK (.int 1)) (aCons (eK (.int 2)) (aCons (eK (.int 4)) (aCons (eK (.int 8)) (aCons (eK (.int 9)) (aCons (eK (.int 0)) aNil)))))))) tN [6] [6] tYesS (callS F_copies_needed (aCons (eVar 2) (aCons (eVar 3) (aCons (eVar 4) (aCons (eVar 6) aNil))))))
def C_law_2 : SE := (eLc (iVal (eVar 7)) (tT (tsC tN (tsC tN (tsC tN tsN)))) [8, 6, 9] [8, 6, 9] tYesS (callS F_is_copy_row (aCons (eVar 2) (aCons (eVar 3) (aCons (eVar 8) (aCons (eVar 6) (aCons (eVar 9) aNil)))))))
def C_law_3 : SE := (eLc (iVal (eTup (aCons (eK (.int 10)) (aCons (eB1 (eK (.int 1)) vNeg) (aCons (eK (.bl true)) (aCons (eK (.int 9)) aNil)))))) tN [6] [6] tYesS (eTup (aCons (eVar 2) (aCons (eVar 3) (aCons (eVar 3) (aCons (eVar 6) aNil))))))
def C_law_4 : SE := (eLc (iVal (eVar 7)) (tT (tsC tN (tsC tN (tsC tN (tsC tN tsN))))) [11, 12, 13, 6] [11, 12, 13, 6] tYesS (lamE NL__law_word B__law_word (callS F_copies_needed (aCons (eVar 11) (aCons (eVar 12) (aCons (eVar 13) (aCons (eVar 6) aNil)))))))
def C_law_5 : SE := (eLc (iVal (eTup (aCons (eK (.int 101)) (aCons (eB1 (eK (.int 1)) vNeg) (aCons (eK (.bl true)) (aCons (eK .non) (aCons (eK (.int 100)) aNil))))))) tN [14] [14] tYesS (lamE NL__law_word B__law_word (callS F_common_copy (aCons (eVar 2) (aCons (eVar 3) (aCons (eVar 3) (aCons (eK (.int 0)) (aCons (eVar 14) aNil))))))))
def L_law_1 : SS := (sSeq (sVal 11 (callS F__law_make (aCons (eVar 1) aNil)))
  (sSeq (sPars [12, 13, 6] (mVal (callS F__law_key (aCons (eVar 1) (aCons (eVar 11) aNil))) (mVal (callS F__law_key (aCons (eVar 1) (aCons (eVar 11) aNil))) (mVal (callS F__law_some (aCons (eVar 1) (aCons (eLst (aCons (eK (.int 0)) (aCons (eK (.int 1)) (aCons (eK (.int 1)) (aCons (eK (.int 2)) (aCons (eK (.int 3)) (aCons (eK (.int 9)) aNil))))))) aNil))) mNil))))
  (sSeq (sVal 13 (callS F__law_some (aCons (eVar 1) (aCons (eLst (aCons (eVar 13) (aCons (eVar 13) (aCons (eVar 12) aNil)))) aNil))))
  (sIf (tOr (tNot (tV (callS F__law_right (aCons (eVar 1) (aCons (eVar 11) (aCons (eVar 12) (aCons (eVar 13) (aCons (eVar 6) aNil)))))))) (tNot (tV (callS F__law_common_right (aCons (eVar 1) (aCons (eVar 11) (aCons (eVar 12) (aCons (eVar 13) (aCons (eVar 6) aNil))))))))) (sRet (eK (.bl false))) sNext))))
def B_law : SS := (sSeq (sOwn 1 (callS F__law_cup (aCons (eVar 0) aNil)))
  (sCup 1 (sSeq (sUnp (eTup (aCons (eTup (aCons (eK (.int 8)) (aCons (eK (.int 10)) (aCons (eK (.int 1)) aNil)))) (aCons (eB2 (eTup (aCons (eK (.int 0)) aNil)) (eK (.int 8)) vMulW) (aCons (eB2 (eTup (aCons (eK (.int 9)) aNil)) (eK (.int 8)) vMulW) aNil)))) (tT (tsC tN (tsC tN (tsC tN tsN)))) [2, 3, 4])
  (sSeq (sVal 5 (eB1 C_law_1 vTup))
  (sSeq (sVal 5 (eB2 (eVarB 5) (eTup (aCons (callS F_copies_needed (aCons (eVar 2) (aCons (eVar 3) (aCons (eVar 3) (aCons (eK (.int 0)) aNil))))) aNil)) vAdd))
  (sSeq (sIf (tOr (tNot (tV (callS (F__law_same 8) (aCons (eVar 5) (aCons (eTup (aCons (eK (.int 9)) (aCons (eK (.int 5)) (aCons (eK (.int 3)) (aCons (eK (.int 2)) (aCons (eK (.int 1)) (aCons (eK .non) (aCons (eK (.int 0)) aNil)))))))) aNil))))) (tV (eB2 (callS F_copy_row (aCons (eVar 2) (aCons (eVar 4) (aCons (eVar 4) (aCons (eK (.int 0)) aNil))))) (eTup (aCons (eVar 4) aNil)) vNe))) (sRet (eK (.bl false))) sNext)
  (sSeq (sVal 5 (eTup (aCons (callS F_common_copy (aCons (eVar 2) (aCons (eVar 3) (aCons (eVar 4) (aCons (eK (.int 1)) (aCons (eK (.int 4)) aNil)))))) (aCons (callS F_common_copy (aCons (eVar 2) (aCons (eVar 3) (aCons (eVar 4) (aCons (eK (.int 9)) (aCons (eK (.int 0)) aNil)))))) (aCons (callS F_is_common_copy (aCons (eVar 2) (aCons (eVar 3) (aCons (eVar 4) (aCons (eK (.int 1)) (aCons (eK (.int 5)) (aCons (eB2 (eTup (aCons (eK (.int 4)) aNil)) (eK (.int 8)) vMulW) aNil))))))) aNil)))))
  (sSeq (sIf (tOr (tNot (tV (callS (F__law_same 8) (aCons (eVar 5) (aCons (eTup (aCons (eK .non) (aCons (eK .non) (aCons (eK (.bl true)) aNil)))) aNil))))) (tV (eB2 (callS F_is_common_copy (aCons (eVar 2) (aCons (eVar 3) (aCons (eVar 4) (aCons (eK (.int 1)) (aCons (eK (.int 5)) (aCons (eB2 (eTup (aCons (eK (.int 5)) aNil)) (eK (.int 8)) vMulW) aNil))))))) (eK (.bl true)) vIsN))) (sRet (eK (.bl false))) sNext)
  (sSeq (sVal 7 (eTup (aCons (eTup (aCons (eVar 3) (aCons (eK (.int 0)) (aCons (eB2 (eTup (aCons (eVar 3) aNil)) (eK (.int 101)) vMulW) aNil)))) (aCons (eTup (aCons (eVar 3) (aCons (eK (.int 0)) (aCons (eB2 (eTup (aCons (eVar 3) aNil)) (eK (.int 102)) vMulW) aNil)))) (aCons (eTup (aCons (eVar 4) (aCons (eK (.int 9)) (aCons (eTup (aCons (eVar 3) (aCons (eVar 4) aNil))) aNil)))) aNil)))))
  (sSeq (sIf (tOr (tV (eB2 C_law_2 (eLst (aCons (eK (.bl true)) (aCons (eK (.bl false)) (aCons (eK (.bl true)) aNil)))) vNe)) (tV (eB2 (callS F_common_copy (aCons (eVar 2) (aCons (eVar 3) (aCons (eVar 3) (aCons (eK (.int 0)) (aCons (eK (.int 0)) aNil)))))) (eVarB 3) vNe))) (sRet (eK (.bl false))) sNext)
  (sSeq (sVal 7 (eLst (aCons (eTup (aCons (eK .non) (aCons (eVar 3) (aCons (eVar 3) (aCons (eK (.int 0)) aNil))))) (aCons (eTup (aCons (eVar 2) (aCons (eK .non) (aCons (eVar 3) (aCons (eK (.int 0)) aNil))))) (aCons (eTup (aCons (eVar 2) (aCons (eVar 3) (aCons (eSl (eVarB 3) (oSome (eK (.int 1))) oNone vSl) (aCons (eK (.int 0)) aNil))))) (aCons (eTup (aCons (eVar 2) (aCons (eVar 3) (aCons (eB2 (eTup (aCons (eK (.int 9)) (aCons (eK (.int 0)) aNil))) (eK (.int 4)) vMulW) (aCons (eK (.int 0)) aNil))))) aNil))))))
  (sSeq (sVal 7 (eB2 (eVarB 7) C_law_3 vAdd))
  (sSeq (sVal 10 C_law_4)
  (sSeq (sVal 10 (eB2 (eVarB 10) C_law_5 vAdd))
  (sSeq (sIf (tV (eB2 (eVarB 10) (eB2 (eB2 (eLst (aCons (eK (.str "make")) (aCons (eK (.str "key")) (aCons (eK (.str "key")) (aCons (eK (.str "key")) (aCons (eK (.str "number")) (aCons (eK (.str "number")) (aCons (eK (.str "number")) (aCons (eK (.str "")) aNil))))))))) (eB2 (eLst (aCons (eK (.str "number")) aNil)) (eK (.int 4)) vMulW) vAdd) (eLst (aCons (eK (.str "")) aNil)) vAdd) vNe)) (sRet (eK (.bl false))) sNext)
  (sSeq (sFor (iRange1 (eK (.int 10))) tN [15] L_law_1)
  (sRet (eK (.bl true)))))))))))))))))))
def F_law : List Va → Cv → Re Va := runF 16 false B_law
theorem ok_law {P : Program} {w : World} {K : PySem.W.Frag} {mg : Str → Option Value} {base : Heap} (Z : Fx K mg) (TB : Tq Z base) : FnA P w K mg base (L2N.CX P w) 11 "law" Z.a_law Z.fd_law ["script"] (spG ⟨K, mg, Z.Tb, none, none, none⟩ 1 false F_law) :=
  fn_AC Z.d_law (N := ["script", "cup", "great", "low", "high", "told", "fault", "rows", "own", "row", "words", "make", "key", "other", "many", "turn"]) (k := 10) (fb := B_law) Z.cd_law (by decide +kernel) (by decide) fun A outer s H E hr j => (rss_cons (rs_own j 1 (rf_call j (FnA.mono (ok__law_cup Z TB) (by omega)) hr (ha := (ra_cons (re_var 0) ra_nil)) (hl := (alen_cons alen_nil))))
  (rss_cup 1 rfl (rss_cons (rs_unp (re_tup (ra_cons (re_tup (ra_cons re_int (ra_cons re_int (ra_cons re_int ra_nil)))) (ra_cons (re_bin op_mulW ov_mulW (RE.rb (re_tup (ra_cons re_int ra_nil))) (RE.rb re_int)) (ra_cons (re_bin op_mulW ov_mulW (RE.rb (re_tup (ra_cons re_int ra_nil))) (RE.rb re_int)) ra_nil)))) (rg_tup (rgs_cons (rg_name j.nd 2) (rgs_cons (rg_name j.nd 3) (rgs_cons (rg_name j.nd 4) rgs_nil))) (hl := (tsC_len (tsC_len (tsC_len (fun _ _ h => tsN_len h)))))))
  (rss_cons (rs_val j 5 (re_t1 call_tuple_of uc_tup (RE.rb (RF.re (rf_lc [("fault", 6)] j (ri_val (re_tup (ra_cons re_int (ra_cons re_int (ra_cons re_int (ra_cons re_int (ra_cons re_int (ra_cons re_int ra_nil)))))))) (by kernel_rfl) (fun s H C cl fp j1 => (rg_name j1.nd 6)) (fun s H C cl fp j1 => rts_nil) (fun s H C cl fp j1 => (re_call j1 (FnA.mono (ok_copies_needed Z TB) (by omega)) hr (ha := (ra_cons (re_var 2) (ra_cons (re_var 3) (ra_cons (re_var 4) (ra_cons (re_var 6) ra_nil))))) (hl := (alen_cons (alen_cons (alen_cons (alen_cons alen_nil)))))))))) Z.b_tuple))
  (rss_cons (rs_val j 5 (re_bin op_addV ov_add (rb_var 5) (RE.rb (re_tup (ra_cons (re_call j (FnA.mono (ok_copies_needed Z TB) (by omega)) hr (ha := (ra_cons (re_var 2) (ra_cons (re_var 3) (ra_cons (re_var 3) (ra_cons re_int ra_nil))))) (hl := (alen_cons (alen_cons (alen_cons (alen_cons alen_nil)))))) ra_nil)))))
  (rss_cons (rs_if (RW.rt (rw_or (rt_not (rt_val (re_call j (FnA.mono (ok__law_same Z TB 8) (by omega)) hr (ha := (ra_cons (re_var 5) (ra_cons (re_tup (ra_cons re_int (ra_cons re_int (ra_cons re_int (ra_cons re_int (ra_cons re_int (ra_cons re_non (ra_cons re_int ra_nil)))))))) ra_nil))) (hl := (alen_cons (alen_cons alen_nil)))))) (rw_or1 (rt_cmp (op_neP j) ov_ne (RE.rb (re_call j (FnA.mono (ok_copy_row Z TB) (by omega)) hr (ha := (ra_cons (re_var 2) (ra_cons (re_var 4) (ra_cons (re_var 4) (ra_cons re_int ra_nil))))) (hl := (alen_cons (alen_cons (alen_cons (alen_cons alen_nil))))))) (RE.rb (re_tup (ra_cons (re_var 4) ra_nil))) rfl)))) (rss_one (rs_ret re_bl)) rss_nil)
  (rss_cons (rs_val j 5 (re_tup (ra_cons (re_call j (FnA.mono (ok_common_copy Z TB) (by omega)) hr (ha := (ra_cons (re_var 2) (ra_cons (re_var 3) (ra_cons (re_var 4) (ra_cons re_int (ra_cons re_int ra_nil)))))) (hl := (alen_cons (alen_cons (alen_cons (alen_cons (alen_cons alen_nil))))))) (ra_cons (re_call j (FnA.mono (ok_common_copy Z TB) (by omega)) hr (ha := (ra_cons (re_var 2) (ra_cons (re_var 3) (ra_cons (re_var 4) (ra_cons re_int (ra_cons re_int ra_nil)))))) (hl := (alen_cons (alen_cons (alen_cons (alen_cons (alen_cons alen_nil))))))) (ra_cons (re_call j (FnA.mono (ok_is_common_copy Z TB) (by omega)) hr (ha := (ra_cons (re_var 2) (ra_cons (re_var 3) (ra_cons (re_var 4) (ra_cons re_int (ra_cons re_int (ra_cons (re_bin op_mulW ov_mulW (RE.rb (re_tup (ra_cons re_int ra_nil))) (RE.rb re_int)) ra_nil))))))) (hl := (alen_cons (alen_cons (alen_cons (alen_cons (alen_cons (alen_cons alen_nil)))))))) ra_nil)))))
  (rss_cons (rs_if (RW.rt (rw_or (rt_not (rt_val (re_call j (FnA.mono (ok__law_same Z TB 8) (by omega)) hr (ha := (ra_cons (re_var 5) (ra_cons (re_tup (ra_cons re_non (ra_cons re_non (ra_cons re_bl ra_nil)))) ra_nil))) (hl := (alen_cons (alen_cons alen_nil)))))) (rw_or1 (rt_cmp op_isNV ov_isN (RE.rb (re_call j (FnA.mono (ok_is_common_copy Z TB) (by omega)) hr (ha := (ra_cons (re_var 2) (ra_cons (re_var 3) (ra_cons (re_var 4) (ra_cons re_int (ra_cons re_int (ra_cons (re_bin op_mulW ov_mulW (RE.rb (re_tup (ra_cons re_int ra_nil))) (RE.rb re_int)) ra_nil))))))) (hl := (alen_cons (alen_cons (alen_cons (alen_cons (alen_cons (alen_cons alen_nil))))))))) (RE.rb re_bl) rfl)))) (rss_one (rs_ret re_bl)) rss_nil)
  (rss_cons (rs_val j 7 (re_tup (ra_cons (re_tup (ra_cons (re_var 3) (ra_cons re_int (ra_cons (re_bin op_mulW ov_mulW (RE.rb (re_tup (ra_cons (re_var 3) ra_nil))) (RE.rb re_int)) ra_nil)))) (ra_cons (re_tup (ra_cons (re_var 3) (ra_cons re_int (ra_cons (re_bin op_mulW ov_mulW (RE.rb (re_tup (ra_cons (re_var 3) ra_nil))) (RE.rb re_int)) ra_nil)))) (ra_cons (re_tup (ra_cons (re_var 4) (ra_cons re_int (ra_cons (re_tup (ra_cons (re_var 3) (ra_cons (re_var 4) ra_nil))) ra_nil)))) ra_nil)))))
  (rss_cons (rs_if (RW.rt (rw_or (rt_cmp (op_neP j) ov_ne (RE.rb (RF.re (rf_lc [("own", 8), ("fault", 6), ("row", 9)] j (ri_val (re_var 7)) (by kernel_rfl) (fun s H C cl fp j1 => (rg_tup (rgs_cons (rg_name j1.nd 8) (rgs_cons (rg_name j1.nd 6) (rgs_cons (rg_name j1.nd 9) rgs_nil))) (hl := (tsC_len (tsC_len (tsC_len (fun _ _ h => tsN_len h))))))) (fun s H C cl fp j1 => rts_nil) (fun s H C cl fp j1 => (re_call j1 (FnA.mono (ok_is_copy_row Z TB) (by omega)) hr (ha := (ra_cons (re_var 2) (ra_cons (re_var 3) (ra_cons (re_var 8) (ra_cons (re_var 6) (ra_cons (re_var 9) ra_nil)))))) (hl := (alen_cons (alen_cons (alen_cons (alen_cons (alen_cons alen_nil))))))))))) (RE.rb (RF.re (rf_lst (ra_cons re_bl (ra_cons re_bl (ra_cons re_bl ra_nil)))))) rfl) (rw_or1 (rt_cmp (op_neP j) ov_ne (RE.rb (re_call j (FnA.mono (ok_common_copy Z TB) (by omega)) hr (ha := (ra_cons (re_var 2) (ra_cons (re_var 3) (ra_cons (re_var 3) (ra_cons re_int (ra_cons re_int ra_nil)))))) (hl := (alen_cons (alen_cons (alen_cons (alen_cons (alen_cons alen_nil)))))))) (rb_var 3) rfl)))) (rss_one (rs_ret re_bl)) rss_nil)
  (rss_cons (rs_val j 7 (RF.re (rf_lst (ra_cons (re_tup (ra_cons re_non (ra_cons (re_var 3) (ra_cons (re_var 3) (ra_cons re_int ra_nil))))) (ra_cons (re_tup (ra_cons (re_var 2) (ra_cons re_non (ra_cons (re_var 3) (ra_cons re_int ra_nil))))) (ra_cons (re_tup (ra_cons (re_var 2) (ra_cons (re_var 3) (ra_cons (re_sl (rb_var 3) (ro_some re_int) ro_none) (ra_cons re_int ra_nil))))) (ra_cons (re_tup (ra_cons (re_var 2) (ra_cons (re_var 3) (ra_cons (re_bin op_mulW ov_mulW (RE.rb (re_tup (ra_cons re_int (ra_cons re_int ra_nil)))) (RE.rb re_int)) (ra_cons re_int ra_nil))))) ra_nil)))))))
  (rss_cons (rs_val j 7 (re_bin op_addV ov_add (rb_var 7) (RE.rb (RF.re (rf_lc [("fault", 6)] j (ri_val (re_tup (ra_cons re_int (ra_cons (re_neg (RE.rb re_int)) (ra_cons re_bl (ra_cons re_int ra_nil)))))) (by kernel_rfl) (fun s H C cl fp j1 => (rg_name j1.nd 6)) (fun s H C cl fp j1 => rts_nil) (fun s H C cl fp j1 => (re_tup (ra_cons (re_var 2) (ra_cons (re_var 3) (ra_cons (re_var 3) (ra_cons (re_var 6) ra_nil)))))))))))
  (rss_cons (rs_lcV [("make", 11), ("key", 12), ("other", 13), ("fault", 6)] j 10 (ri_val (re_var 7)) (by kernel_rfl) (fun s H C cl fp j1 => (rg_tup (rgs_cons (rg_name j1.nd 11) (rgs_cons (rg_name j1.nd 12) (rgs_cons (rg_name j1.nd 13) (rgs_cons (rg_name j1.nd 6) rgs_nil)))) (hl := (tsC_len (tsC_len (tsC_len (tsC_len (fun _ _ h => tsN_len h)))))))) (fun s H C cl fp j1 => rts_nil) (fun s H C cl fp j1 => (re_lam j1 (ok__law_word Z (k := _)) hr TB.tb_law (Z.mem_law) (Z.uniq_law) (fun A outer s H E f c' hrL1 jL1 => (re_call jL1 (FnA.mono (ok_copies_needed Z TB) (by omega)) hrL1 (ha := (ra_cons (re_var 11) (ra_cons (re_var 12) (ra_cons (re_var 13) (ra_cons (re_var 6) ra_nil))))) (hl := (alen_cons (alen_cons (alen_cons (alen_cons alen_nil))))))))))
  (rss_cons (rs_val j 10 (re_bin op_addV ov_add (rb_var 10) (RE.rb (RF.re (rf_lc [("many", 14)] j (ri_val (re_tup (ra_cons re_int (ra_cons (re_neg (RE.rb re_int)) (ra_cons re_bl (ra_cons re_non (ra_cons re_int ra_nil))))))) (by kernel_rfl) (fun s H C cl fp j1 => (rg_name j1.nd 14)) (fun s H C cl fp j1 => rts_nil) (fun s H C cl fp j1 => (re_lam j1 (ok__law_word Z (k := _)) hr TB.tb_law (Z.mem_law) (Z.uniq_law) (fun A outer s H E f c' hrL1 jL1 => (re_call jL1 (FnA.mono (ok_common_copy Z TB) (by omega)) hrL1 (ha := (ra_cons (re_var 2) (ra_cons (re_var 3) (ra_cons (re_var 3) (ra_cons re_int (ra_cons (re_var 14) ra_nil)))))) (hl := (alen_cons (alen_cons (alen_cons (alen_cons (alen_cons alen_nil)))))))))))))))
  (rss_cons (rs_if (rt_cmp (op_neP j) ov_ne (rb_var 10) (RE.rb (re_bin op_addV ov_add (RE.rb (re_bin op_addV ov_add (RE.rb (RF.re (rf_lst (ra_cons re_str (ra_cons re_str (ra_cons re_str (ra_cons re_str (ra_cons re_str (ra_cons re_str (ra_cons re_str (ra_cons re_str ra_nil))))))))))) (RE.rb (re_bin op_mulW ov_mulW (RE.rb (RF.re (rf_lst (ra_cons re_str ra_nil)))) (RE.rb re_int))))) (RE.rb (RF.re (rf_lst (ra_cons re_str ra_nil)))))) rfl) (rss_one (rs_ret re_bl)) rss_nil)
  (rss_cons (rs_for j (ri_range1 re_int Z.b_range) (rg_name j.nd 15) (rss_cons (rs_val j 11 (re_call j (FnA.mono (ok__law_make Z TB) (by omega)) hr (ha := (ra_cons (re_var 1) ra_nil)) (hl := (alen_cons alen_nil))))
  (rss_cons (rs_par3 j 12 13 6 (rm_val (re_call j (FnA.mono (ok__law_key Z TB) (by omega)) hr (ha := (ra_cons (re_var 1) (ra_cons (re_var 11) ra_nil))) (hl := (alen_cons (alen_cons alen_nil)))) (rm_val (re_call j (FnA.mono (ok__law_key Z TB) (by omega)) hr (ha := (ra_cons (re_var 1) (ra_cons (re_var 11) ra_nil))) (hl := (alen_cons (alen_cons alen_nil)))) (rm_val (re_call j (FnA.mono (ok__law_some Z TB) (by omega)) hr (ha := (ra_cons (re_var 1) (ra_cons (RF.re (rf_lst (ra_cons re_int (ra_cons re_int (ra_cons re_int (ra_cons re_int (ra_cons re_int (ra_cons re_int ra_nil)))))))) ra_nil))) (hl := (alen_cons (alen_cons alen_nil)))) rm_nil))))
  (rss_cons (rs_val j 13 (re_call j (FnA.mono (ok__law_some Z TB) (by omega)) hr (ha := (ra_cons (re_var 1) (ra_cons (RF.re (rf_lst (ra_cons (re_var 13) (ra_cons (re_var 13) (ra_cons (re_var 12) ra_nil))))) ra_nil))) (hl := (alen_cons (alen_cons alen_nil)))))
  (rss_one (rs_if (RW.rt (rw_or (rt_not (rt_val (re_call j (FnA.mono (ok__law_right Z TB) (by omega)) hr (ha := (ra_cons (re_var 1) (ra_cons (re_var 11) (ra_cons (re_var 12) (ra_cons (re_var 13) (ra_cons (re_var 6) ra_nil)))))) (hl := (alen_cons (alen_cons (alen_cons (alen_cons (alen_cons alen_nil))))))))) (rw_or1 (rt_not (rt_val (re_call j (FnA.mono (ok__law_common_right Z TB) (by omega)) hr (ha := (ra_cons (re_var 1) (ra_cons (re_var 11) (ra_cons (re_var 12) (ra_cons (re_var 13) (ra_cons (re_var 6) ra_nil)))))) (hl := (alen_cons (alen_cons (alen_cons (alen_cons (alen_cons alen_nil)))))))))))) (rss_one (rs_ret re_bl)) rss_nil))))))
  (rss_one (rs_ret re_bl))))))))))))))))))
end G

set_option Elab.async false
set_option linter.all false
set_option maxRecDepth 100000
set_option maxHeartbeats 2000000
namespace G
set_option autoImplicit false
open PySem PySem.Spec PyProof.Rows L2
/-! ### values of any plain kind -/
mutual
def pl : Va → Bool
  | .tup ds => pls ds
  | .lst ds => pls ds
  | .dic _ _ _ => false
  | .fn _ => false
  | .cup => false
  | .scr _ => false
  | _ => true
def pls : List Va → Bool
  | [] => true
  | d :: r => pl d && pls r
end
theorem pl_vt {d : Va} (h : pl d = true) : ∃ v, vtOf d = some v := by
  cases d <;> first | exact ⟨_, rfl⟩ | (simp [pl] at h)
theorem pls_mem : ∀ {ds : List Va}, pls ds = true → ∀ d ∈ ds, pl d = true
  | d :: r, h, x, hx => by
    rw [pls, Bool.and_eq_true] at h
    rcases List.mem_cons.mp hx with e | e
    · rw [e]; exact h.1
    · exact pls_mem h.2 x e
def isI : Va → Bool
  | .int _ => true
  | _ => false
def inI (lo hi : Int) : Va → Bool
  | .int i => decide (lo ≤ i) && decide (i ≤ hi)
  | _ => false
theorem sp_is_whole {v : Va} (h : pl v = true) (c : Cv) : F_is_whole [v] c = .ok (.bl (isI v)) c := by
  cases v <;> first | (simp [pl] at h; done) | simp [F_is_whole, B_is_whole, vIsi, vtOf, isT, isI, oSome, oNone, eSl, vSl, runF, env0, sSeq, sIf, sRet, sVal, sDrop, sPars, sUnp, sNext, sRetN, sRaise, mVal, mOwn, mNil, setE, eVar, eVarB, eK, eB1, eB2, eTup, eLst, aNil, aCons, bd_ok, bd_exn, sb_ok, sb_exn, tV, tAnd, tOr, tNot, eAnd, eOr, eNot, eIf, eChain, callS, List.map_cons, List.map_nil, List.length_cons, List.length_nil, List.length_map, List.replicate, List.cons_append, List.nil_append, List.getElem?_cons_zero, List.getElem?_cons_succ, List.getElem?_nil, Nat.reduceSub, Nat.reduceAdd, Nat.zero_add, List.set_cons_zero, List.set_cons_succ, Bool.not_true, Bool.not_false, if_true, if_false, Bool.false_eq_true, eq_int, ne_int, eq_bl, ne_bl, le_int, lt_int, ge_int, gt_int, sub_int, add_int, neg_int, abs_int]
theorem sp_fits_whole {v : Va} (h : pl v = true) (lo hi : Int) (c : Cv) : F_fits_whole [v, .int lo, .int hi] c = .ok (.bl (inI lo hi v)) c := by
  cases v with
  | int i =>
    by_cases h1 : lo ≤ i <;> by_cases h2 : i ≤ hi <;> simp [F_fits_whole, B_fits_whole, sp_is_whole h, isI, inI, h1, h2, oSome, oNone, eSl, vSl, runF, env0, sSeq, sIf, sRet, sVal, sDrop, sPars, sUnp, sNext, sRetN, sRaise, mVal, mOwn, mNil, setE, eVar, eVarB, eK, eB1, eB2, eTup, eLst, aNil, aCons, bd_ok, bd_exn, sb_ok, sb_exn, tV, tAnd, tOr, tNot, eAnd, eOr, eNot, eIf, eChain, callS, List.map_cons, List.map_nil, List.length_cons, List.length_nil, List.length_map, List.replicate, List.cons_append, List.nil_append, List.getElem?_cons_zero, List.getElem?_cons_succ, List.getElem?_nil, Nat.reduceSub, Nat.reduceAdd, Nat.zero_add, List.set_cons_zero, List.set_cons_succ, Bool.not_true, Bool.not_false, if_true, if_false, Bool.false_eq_true, eq_int, ne_int, eq_bl, ne_bl, le_int, lt_int, ge_int, gt_int, sub_int, add_int, neg_int, abs_int]
  | _ => simp [F_fits_whole, B_fits_whole, sp_is_whole h, isI, inI, oSome, oNone, eSl, vSl, runF, env0, sSeq, sIf, sRet, sVal, sDrop, sPars, sUnp, sNext, sRetN, sRaise, mVal, mOwn, mNil, setE, eVar, eVarB, eK, eB1, eB2, eTup, eLst, aNil, aCons, bd_ok, bd_exn, sb_ok, sb_exn, tV, tAnd, tOr, tNot, eAnd, eOr, eNot, eIf, eChain, callS, List.map_cons, List.map_nil, List.length_cons, List.length_nil, List.length_map, List.replicate, List.cons_append, List.nil_append, List.getElem?_cons_zero, List.getElem?_cons_succ, List.getElem?_nil, Nat.reduceSub, Nat.reduceAdd, Nat.zero_add, List.set_cons_zero, List.set_cons_succ, Bool.not_true, Bool.not_false, if_true, if_false, Bool.false_eq_true, eq_int, ne_int, eq_bl, ne_bl, le_int, lt_int, ge_int, gt_int, sub_int, add_int, neg_int, abs_int]
def tupL (lo hi : Int) : Va → Bool
  | .tup ds => decide (lo ≤ (ds.length : Int)) && decide ((ds.length : Int) ≤ hi)
  | _ => false
theorem sp_is_tuple_of {v : Va} (h : pl v = true) (lo hi : Int) (c : Cv) : F_is_tuple_of [v, .int lo, .int hi] c = .ok (.bl (tupL lo hi v)) c := by
  cases v with
  | tup ds =>
    by_cases h1 : lo ≤ (ds.length : Int) <;> by_cases h2 : (ds.length : Int) ≤ hi <;> simp [F_is_tuple_of, B_is_tuple_of, vIsi, vtOf, isT, vLen, tupL, h1, h2, oSome, oNone, eSl, vSl, runF, env0, sSeq, sIf, sRet, sVal, sDrop, sPars, sUnp, sNext, sRetN, sRaise, mVal, mOwn, mNil, setE, eVar, eVarB, eK, eB1, eB2, eTup, eLst, aNil, aCons, bd_ok, bd_exn, sb_ok, sb_exn, tV, tAnd, tOr, tNot, eAnd, eOr, eNot, eIf, eChain, callS, List.map_cons, List.map_nil, List.length_cons, List.length_nil, List.length_map, List.replicate, List.cons_append, List.nil_append, List.getElem?_cons_zero, List.getElem?_cons_succ, List.getElem?_nil, Nat.reduceSub, Nat.reduceAdd, Nat.zero_add, List.set_cons_zero, List.set_cons_succ, Bool.not_true, Bool.not_false, if_true, if_false, Bool.false_eq_true, eq_int, ne_int, eq_bl, ne_bl, le_int, lt_int, ge_int, gt_int, sub_int, add_int, neg_int, abs_int]
  | _ => first | (simp [pl] at h; done) | simp [F_is_tuple_of, B_is_tuple_of, vIsi, vtOf, isT, tupL, oSome, oNone, eSl, vSl, runF, env0, sSeq, sIf, sRet, sVal, sDrop, sPars, sUnp, sNext, sRetN, sRaise, mVal, mOwn, mNil, setE, eVar, eVarB, eK, eB1, eB2, eTup, eLst, aNil, aCons, bd_ok, bd_exn, sb_ok, sb_exn, tV, tAnd, tOr, tNot, eAnd, eOr, eNot, eIf, eChain, callS, List.map_cons, List.map_nil, List.length_cons, List.length_nil, List.length_map, List.replicate, List.cons_append, List.nil_append, List.getElem?_cons_zero, List.getElem?_cons_succ, List.getElem?_nil, Nat.reduceSub, Nat.reduceAdd, Nat.zero_add, List.set_cons_zero, List.set_cons_succ, Bool.not_true, Bool.not_false, if_true, if_false, Bool.false_eq_true, eq_int, ne_int, eq_bl, ne_bl, le_int, lt_int, ge_int, gt_int, sub_int, add_int, neg_int, abs_int]
/-! ### makes, keys -/
abbrev mkV (p h s : Int) : Va := .tup [.int p, .int h, .int s]
structure GM (p h s : Int) : Prop where
  p1 : 1 ≤ p
  p8 : p ≤ 8
  h2 : 2 ≤ h
  h10 : h ≤ 10
  s1 : 1 ≤ s
  s9 : s ≤ 9
theorem ix0 (a b d : Va) (c : Cv) : vIx (.tup [a, b, d]) (.int 0) c = .ok a c := rfl
theorem ix1 (a b d : Va) (c : Cv) : vIx (.tup [a, b, d]) (.int 1) c = .ok b c := rfl
theorem ix2 (a b d : Va) (c : Cv) : vIx (.tup [a, b, d]) (.int 2) c = .ok d c := rfl
theorem sp_fits_make {p h s : Int} (g : GM p h s) (c : Cv) : F_fits_make [mkV p h s] c = .ok (.bl true) c := by
  obtain ⟨p1, p8, h2, h10, s1, s9⟩ := g
  simp [F_fits_make, B_fits_make, sp_is_tuple_of (v := mkV p h s) (by simp [pl, pls]), sp_fits_whole (v := .int p) rfl, sp_fits_whole (v := .int h) rfl, sp_fits_whole (v := .int s) rfl, tupL, inI, ix0, ix1, ix2, p1, p8, h2, h10, s1, s9, oSome, oNone, eSl, vSl, runF, env0, sSeq, sIf, sRet, sVal, sDrop, sPars, sUnp, sNext, sRetN, sRaise, mVal, mOwn, mNil, setE, eVar, eVarB, eK, eB1, eB2, eTup, eLst, aNil, aCons, bd_ok, bd_exn, sb_ok, sb_exn, tV, tAnd, tOr, tNot, eAnd, eOr, eNot, eIf, eChain, callS, List.map_cons, List.map_nil, List.length_cons, List.length_nil, List.length_map, List.replicate, List.cons_append, List.nil_append, List.getElem?_cons_zero, List.getElem?_cons_succ, List.getElem?_nil, Nat.reduceSub, Nat.reduceAdd, Nat.zero_add, List.set_cons_zero, List.set_cons_succ, Bool.not_true, Bool.not_false, if_true, if_false, Bool.false_eq_true, eq_int, ne_int, eq_bl, ne_bl, le_int, lt_int, ge_int, gt_int, sub_int, add_int, neg_int, abs_int]
theorem sp_fits_make_no (c : Cv) : F_fits_make [.non] c = .ok (.bl false) c := by
  simp [F_fits_make, B_fits_make, sp_is_tuple_of (v := .non) rfl, tupL, oSome, oNone, eSl, vSl, runF, env0, sSeq, sIf, sRet, sVal, sDrop, sPars, sUnp, sNext, sRetN, sRaise, mVal, mOwn, mNil, setE, eVar, eVarB, eK, eB1, eB2, eTup, eLst, aNil, aCons, bd_ok, bd_exn, sb_ok, sb_exn, tV, tAnd, tOr, tNot, eAnd, eOr, eNot, eIf, eChain, callS, List.map_cons, List.map_nil, List.length_cons, List.length_nil, List.length_map, List.replicate, List.cons_append, List.nil_append, List.getElem?_cons_zero, List.getElem?_cons_succ, List.getElem?_nil, Nat.reduceSub, Nat.reduceAdd, Nat.zero_add, List.set_cons_zero, List.set_cons_succ, Bool.not_true, Bool.not_false, if_true, if_false, Bool.false_eq_true, eq_int, ne_int, eq_bl, ne_bl, le_int, lt_int, ge_int, gt_int, sub_int, add_int, neg_int, abs_int]
def fitsC (p h : Int) : Va → Bool
  | .tup ds => decide ((ds.length : Int) = p) && ds.all (inI 0 (h - 1))
  | _ => false
theorem l24_of {n : Nat} (h : n ≤ 1000) : n ≤ L24 := by unfold L24; omega
theorem sp_C_fits_cuts_1 {p h s : Int} {ds : List Va} (hp : pls ds = true) (hl : ds.length ≤ L24) (c : Cv) : C_fits_cuts_1 [.val (mkV p h s), .val (.tup ds), .un] c = .ok (.lst (ds.map fun d => .bl (inI 0 (h - 1) d))) c := by
  refine eLc_map (α := Va) id (fun d => .bl (inI 0 (h - 1) d)) ds ?_ hl (by simp [ownFree]) fun d hd => lcS_yes rfl ?_
  · simp [iVal, vIt, oSome, oNone, eSl, vSl, runF, env0, sSeq, sIf, sRet, sVal, sDrop, sPars, sUnp, sNext, sRetN, sRaise, mVal, mOwn, mNil, setE, eVar, eVarB, eK, eB1, eB2, eTup, eLst, aNil, aCons, bd_ok, bd_exn, sb_ok, sb_exn, tV, tAnd, tOr, tNot, eAnd, eOr, eNot, eIf, eChain, callS, List.map_cons, List.map_nil, List.length_cons, List.length_nil, List.length_map, List.replicate, List.cons_append, List.nil_append, List.getElem?_cons_zero, List.getElem?_cons_succ, List.getElem?_nil, Nat.reduceSub, Nat.reduceAdd, Nat.zero_add, List.set_cons_zero, List.set_cons_succ, Bool.not_true, Bool.not_false, if_true, if_false, Bool.false_eq_true, eq_int, ne_int, eq_bl, ne_bl, le_int, lt_int, ge_int, gt_int, sub_int, add_int, neg_int, abs_int]
  · simp [wipeE, sp_fits_whole (pls_mem hp d hd), ix0, ix1, ix2, oSome, oNone, eSl, vSl, runF, env0, sSeq, sIf, sRet, sVal, sDrop, sPars, sUnp, sNext, sRetN, sRaise, mVal, mOwn, mNil, setE, eVar, eVarB, eK, eB1, eB2, eTup, eLst, aNil, aCons, bd_ok, bd_exn, sb_ok, sb_exn, tV, tAnd, tOr, tNot, eAnd, eOr, eNot, eIf, eChain, callS, List.map_cons, List.map_nil, List.length_cons, List.length_nil, List.length_map, List.replicate, List.cons_append, List.nil_append, List.getElem?_cons_zero, List.getElem?_cons_succ, List.getElem?_nil, Nat.reduceSub, Nat.reduceAdd, Nat.zero_add, List.set_cons_zero, List.set_cons_succ, Bool.not_true, Bool.not_false, if_true, if_false, Bool.false_eq_true, eq_int, ne_int, eq_bl, ne_bl, le_int, lt_int, ge_int, gt_int, sub_int, add_int, neg_int, abs_int]
theorem tupL_eq (p : Int) (ds : List Va) : tupL p p (.tup ds) = decide ((ds.length : Int) = p) := by
  unfold tupL
  by_cases h : (ds.length : Int) = p
  · simp [h]
  · by_cases h1 : p ≤ (ds.length : Int)
    · have : ¬ (ds.length : Int) ≤ p := by omega
      simp [h, h1, this]
    · simp [h, h1]
theorem sp_fits_cuts {p h s : Int} (g : GM p h s) {v : Va} (hv : pl v = true) (c : Cv) : F_fits_cuts [mkV p h s, v] c = .ok (.bl (fitsC p h v)) c := by
  cases v with
  | tup ds =>
    by_cases hl : (ds.length : Int) = p
    · have hl2 : ds.length ≤ L24 := l24_of (by have := g.p8; omega)
      have hp : pls ds = true := by simpa [pl] using hv
      simp [F_fits_cuts, B_fits_cuts, sp_is_tuple_of hv, tupL_eq, hl, ix0, sp_C_fits_cuts_1 hp hl2, vAll_mapf, fitsC, oSome, oNone, eSl, vSl, runF, env0, sSeq, sIf, sRet, sVal, sDrop, sPars, sUnp, sNext, sRetN, sRaise, mVal, mOwn, mNil, setE, eVar, eVarB, eK, eB1, eB2, eTup, eLst, aNil, aCons, bd_ok, bd_exn, sb_ok, sb_exn, tV, tAnd, tOr, tNot, eAnd, eOr, eNot, eIf, eChain, callS, List.map_cons, List.map_nil, List.length_cons, List.length_nil, List.length_map, List.replicate, List.cons_append, List.nil_append, List.getElem?_cons_zero, List.getElem?_cons_succ, List.getElem?_nil, Nat.reduceSub, Nat.reduceAdd, Nat.zero_add, List.set_cons_zero, List.set_cons_succ, Bool.not_true, Bool.not_false, if_true, if_false, Bool.false_eq_true, eq_int, ne_int, eq_bl, ne_bl, le_int, lt_int, ge_int, gt_int, sub_int, add_int, neg_int, abs_int]
    · simp [F_fits_cuts, B_fits_cuts, sp_is_tuple_of hv, tupL_eq, hl, ix0, fitsC, oSome, oNone, eSl, vSl, runF, env0, sSeq, sIf, sRet, sVal, sDrop, sPars, sUnp, sNext, sRetN, sRaise, mVal, mOwn, mNil, setE, eVar, eVarB, eK, eB1, eB2, eTup, eLst, aNil, aCons, bd_ok, bd_exn, sb_ok, sb_exn, tV, tAnd, tOr, tNot, eAnd, eOr, eNot, eIf, eChain, callS, List.map_cons, List.map_nil, List.length_cons, List.length_nil, List.length_map, List.replicate, List.cons_append, List.nil_append, List.getElem?_cons_zero, List.getElem?_cons_succ, List.getElem?_nil, Nat.reduceSub, Nat.reduceAdd, Nat.zero_add, List.set_cons_zero, List.set_cons_succ, Bool.not_true, Bool.not_false, if_true, if_false, Bool.false_eq_true, eq_int, ne_int, eq_bl, ne_bl, le_int, lt_int, ge_int, gt_int, sub_int, add_int, neg_int, abs_int]
  | _ => first | (simp [pl] at hv; done) | simp [F_fits_cuts, B_fits_cuts, sp_is_tuple_of hv, tupL, ix0, fitsC, oSome, oNone, eSl, vSl, runF, env0, sSeq, sIf, sRet, sVal, sDrop, sPars, sUnp, sNext, sRetN, sRaise, mVal, mOwn, mNil, setE, eVar, eVarB, eK, eB1, eB2, eTup, eLst, aNil, aCons, bd_ok, bd_exn, sb_ok, sb_exn, tV, tAnd, tOr, tNot, eAnd, eOr, eNot, eIf, eChain, callS, List.map_cons, List.map_nil, List.length_cons, List.length_nil, List.length_map, List.replicate, List.cons_append, List.nil_append, List.getElem?_cons_zero, List.getElem?_cons_succ, List.getElem?_nil, Nat.reduceSub, Nat.reduceAdd, Nat.zero_add, List.set_cons_zero, List.set_cons_succ, Bool.not_true, Bool.not_false, if_true, if_false, Bool.false_eq_true, eq_int, ne_int, eq_bl, ne_bl, le_int, lt_int, ge_int, gt_int, sub_int, add_int, neg_int, abs_int]
/-- the steps between neighbours -/
def adj (s : Int) (ns : List Int) : Bool := (nbs ns).all fun q => decide (absI (q.1 - q.2) ≤ s)
def ofInts (ds : List Va) : List Int := ds.map fun d => match d with
  | .int i => i
  | _ => 0
def fitsK (p h s : Int) (v : Va) : Bool := fitsC p h v && (match v with
  | .tup ds => adj s (ofInts ds)
  | _ => false)
theorem ofInts_map (ns : List Int) : ofInts (ns.map .int) = ns := by
  induction ns with
  | nil => rfl
  | cons n r ih => show n :: ofInts (r.map .int) = _; rw [ih]
theorem fitsC_ints {p h : Int} {ds : List Va} (f : fitsC p h (.tup ds) = true) : ∃ ns : List Int, ds = ns.map .int ∧ (ns.length : Int) = p ∧ ∀ n ∈ ns, 0 ≤ n ∧ n ≤ h - 1 := by
  unfold fitsC at f
  rw [Bool.and_eq_true, List.all_eq_true, decide_eq_true_eq] at f
  obtain ⟨ns, e⟩ := intsOf_some (ds := ds) fun d hd => by
    have := f.2 d hd
    cases d <;> first | exact ⟨_, rfl⟩ | (simp [inI] at this)
  subst e
  refine ⟨ns, rfl, by simpa using f.1, fun n hn => ?_⟩
  have := f.2 (.int n) (List.mem_map.mpr ⟨n, hn, rfl⟩)
  simpa [inI] using this
theorem sp_C_fits_key_1 {p h s : Int} {ns : List Int} (hl : ns.length ≤ 1000) (c : Cv) : C_fits_key_1 [.val (mkV p h s), .val (IT ns), .un, .un] c = .ok (.lst ((nbs ns).map fun q => .bl (decide (absI (q.1 - q.2) ≤ s)))) c := by
  refine eLc_map (α := Int × Int) (fun q => .tup [.int q.1, .int q.2]) (fun q => .bl (decide (absI (q.1 - q.2) ≤ s))) (nbs ns) ?_ ?_ (by simp [ownFree]) fun q hq => lcS_yes (t2 _ _) ?_
  · have := cut_from (ns.map Va.int) 1
    simp only [Int.natCast_one] at this
    simp [iZip, zip_tup, this, zip_nbs, -List.map_drop, -List.drop_one, oSome, oNone, eSl, vSl, runF, env0, sSeq, sIf, sRet, sVal, sDrop, sPars, sUnp, sNext, sRetN, sRaise, mVal, mOwn, mNil, setE, eVar, eVarB, eK, eB1, eB2, eTup, eLst, aNil, aCons, bd_ok, bd_exn, sb_ok, sb_exn, tV, tAnd, tOr, tNot, eAnd, eOr, eNot, eIf, eChain, callS, List.map_cons, List.map_nil, List.length_cons, List.length_nil, List.length_map, List.replicate, List.cons_append, List.nil_append, List.getElem?_cons_zero, List.getElem?_cons_succ, List.getElem?_nil, Nat.reduceSub, Nat.reduceAdd, Nat.zero_add, List.set_cons_zero, List.set_cons_succ, Bool.not_true, Bool.not_false, if_true, if_false, Bool.false_eq_true, eq_int, ne_int, eq_bl, ne_bl, le_int, lt_int, ge_int, gt_int, sub_int, add_int, neg_int, abs_int]
  · refine l24_of ?_
    simp [nbs]; omega
  · simp [wipeE, ix2, absI, oSome, oNone, eSl, vSl, runF, env0, sSeq, sIf, sRet, sVal, sDrop, sPars, sUnp, sNext, sRetN, sRaise, mVal, mOwn, mNil, setE, eVar, eVarB, eK, eB1, eB2, eTup, eLst, aNil, aCons, bd_ok, bd_exn, sb_ok, sb_exn, tV, tAnd, tOr, tNot, eAnd, eOr, eNot, eIf, eChain, callS, List.map_cons, List.map_nil, List.length_cons, List.length_nil, List.length_map, List.replicate, List.cons_append, List.nil_append, List.getElem?_cons_zero, List.getElem?_cons_succ, List.getElem?_nil, Nat.reduceSub, Nat.reduceAdd, Nat.zero_add, List.set_cons_zero, List.set_cons_succ, Bool.not_true, Bool.not_false, if_true, if_false, Bool.false_eq_true, eq_int, ne_int, eq_bl, ne_bl, le_int, lt_int, ge_int, gt_int, sub_int, add_int, neg_int, abs_int]
    try first | rfl | congr
theorem sp_fits_key {p h s : Int} (g : GM p h s) {v : Va} (hv : pl v = true) (c : Cv) : F_fits_key [mkV p h s, v] c = .ok (.bl (fitsK p h s v)) c := by
  cases hf : fitsC p h v with
  | false => simp [F_fits_key, B_fits_key, sp_fits_cuts g hv, hf, fitsK, oSome, oNone, eSl, vSl, runF, env0, sSeq, sIf, sRet, sVal, sDrop, sPars, sUnp, sNext, sRetN, sRaise, mVal, mOwn, mNil, setE, eVar, eVarB, eK, eB1, eB2, eTup, eLst, aNil, aCons, bd_ok, bd_exn, sb_ok, sb_exn, tV, tAnd, tOr, tNot, eAnd, eOr, eNot, eIf, eChain, callS, List.map_cons, List.map_nil, List.length_cons, List.length_nil, List.length_map, List.replicate, List.cons_append, List.nil_append, List.getElem?_cons_zero, List.getElem?_cons_succ, List.getElem?_nil, Nat.reduceSub, Nat.reduceAdd, Nat.zero_add, List.set_cons_zero, List.set_cons_succ, Bool.not_true, Bool.not_false, if_true, if_false, Bool.false_eq_true, eq_int, ne_int, eq_bl, ne_bl, le_int, lt_int, ge_int, gt_int, sub_int, add_int, neg_int, abs_int]
  | true =>
    cases v with
    | tup ds =>
      obtain ⟨ns, e, hl, _⟩ := fitsC_ints hf
      subst e
      have := sp_C_fits_key_1 (p := p) (h := h) (s := s) (ns := ns) (by have := g.p8; omega) c
      simp [F_fits_key, B_fits_key, sp_fits_cuts g hv, hf, fitsK, this, vAll_mapf, adj, ofInts_map, oSome, oNone, eSl, vSl, runF, env0, sSeq, sIf, sRet, sVal, sDrop, sPars, sUnp, sNext, sRetN, sRaise, mVal, mOwn, mNil, setE, eVar, eVarB, eK, eB1, eB2, eTup, eLst, aNil, aCons, bd_ok, bd_exn, sb_ok, sb_exn, tV, tAnd, tOr, tNot, eAnd, eOr, eNot, eIf, eChain, callS, List.map_cons, List.map_nil, List.length_cons, List.length_nil, List.length_map, List.replicate, List.cons_append, List.nil_append, List.getElem?_cons_zero, List.getElem?_cons_succ, List.getElem?_nil, Nat.reduceSub, Nat.reduceAdd, Nat.zero_add, List.set_cons_zero, List.set_cons_succ, Bool.not_true, Bool.not_false, if_true, if_false, Bool.false_eq_true, eq_int, ne_int, eq_bl, ne_bl, le_int, lt_int, ge_int, gt_int, sub_int, add_int, neg_int, abs_int]
    | _ => simp [fitsC] at hf
theorem sp_need_make {p h s : Int} (g : GM p h s) (c : Cv) : F_need_make [mkV p h s] c = .ok .non c := by
  simp [F_need_make, B_need_make, sp_fits_make g, oSome, oNone, eSl, vSl, runF, env0, sSeq, sIf, sRet, sVal, sDrop, sPars, sUnp, sNext, sRetN, sRaise, mVal, mOwn, mNil, setE, eVar, eVarB, eK, eB1, eB2, eTup, eLst, aNil, aCons, bd_ok, bd_exn, sb_ok, sb_exn, tV, tAnd, tOr, tNot, eAnd, eOr, eNot, eIf, eChain, callS, List.map_cons, List.map_nil, List.length_cons, List.length_nil, List.length_map, List.replicate, List.cons_append, List.nil_append, List.getElem?_cons_zero, List.getElem?_cons_succ, List.getElem?_nil, Nat.reduceSub, Nat.reduceAdd, Nat.zero_add, List.set_cons_zero, List.set_cons_succ, Bool.not_true, Bool.not_false, if_true, if_false, Bool.false_eq_true, eq_int, ne_int, eq_bl, ne_bl, le_int, lt_int, ge_int, gt_int, sub_int, add_int, neg_int, abs_int]
theorem sp_need_make_no (c : Cv) : F_need_make [.non] c = .exn ⟨"InvalidMake", []⟩ c := by
  simp [F_need_make, B_need_make, sp_fits_make_no, oSome, oNone, eSl, vSl, runF, env0, sSeq, sIf, sRet, sVal, sDrop, sPars, sUnp, sNext, sRetN, sRaise, mVal, mOwn, mNil, setE, eVar, eVarB, eK, eB1, eB2, eTup, eLst, aNil, aCons, bd_ok, bd_exn, sb_ok, sb_exn, tV, tAnd, tOr, tNot, eAnd, eOr, eNot, eIf, eChain, callS, List.map_cons, List.map_nil, List.length_cons, List.length_nil, List.length_map, List.replicate, List.cons_append, List.nil_append, List.getElem?_cons_zero, List.getElem?_cons_succ, List.getElem?_nil, Nat.reduceSub, Nat.reduceAdd, Nat.zero_add, List.set_cons_zero, List.set_cons_succ, Bool.not_true, Bool.not_false, if_true, if_false, Bool.false_eq_true, eq_int, ne_int, eq_bl, ne_bl, le_int, lt_int, ge_int, gt_int, sub_int, add_int, neg_int, abs_int]
theorem sp_need_key {p h s : Int} (g : GM p h s) {v : Va} (hv : pl v = true) (c : Cv) : F_need_key [mkV p h s, v] c = if fitsK p h s v then .ok .non c else .exn ⟨"InvalidKey", []⟩ c := by
  cases hf : fitsK p h s v <;> simp [F_need_key, B_need_key, sp_fits_key g hv, hf, oSome, oNone, eSl, vSl, runF, env0, sSeq, sIf, sRet, sVal, sDrop, sPars, sUnp, sNext, sRetN, sRaise, mVal, mOwn, mNil, setE, eVar, eVarB, eK, eB1, eB2, eTup, eLst, aNil, aCons, bd_ok, bd_exn, sb_ok, sb_exn, tV, tAnd, tOr, tNot, eAnd, eOr, eNot, eIf, eChain, callS, List.map_cons, List.map_nil, List.length_cons, List.length_nil, List.length_map, List.replicate, List.cons_append, List.nil_append, List.getElem?_cons_zero, List.getElem?_cons_succ, List.getElem?_nil, Nat.reduceSub, Nat.reduceAdd, Nat.zero_add, List.set_cons_zero, List.set_cons_succ, Bool.not_true, Bool.not_false, if_true, if_false, Bool.false_eq_true, eq_int, ne_int, eq_bl, ne_bl, le_int, lt_int, ge_int, gt_int, sub_int, add_int, neg_int, abs_int]
theorem sp_need_fault {v : Va} (hv : pl v = true) (c : Cv) : F_need_fault [v] c = if inI 0 9 v then .ok .non c else .exn ⟨"InvalidNumber", []⟩ c := by
  cases hf : inI 0 9 v <;> simp [F_need_fault, B_need_fault, sp_fits_whole hv, hf, oSome, oNone, eSl, vSl, runF, env0, sSeq, sIf, sRet, sVal, sDrop, sPars, sUnp, sNext, sRetN, sRaise, mVal, mOwn, mNil, setE, eVar, eVarB, eK, eB1, eB2, eTup, eLst, aNil, aCons, bd_ok, bd_exn, sb_ok, sb_exn, tV, tAnd, tOr, tNot, eAnd, eOr, eNot, eIf, eChain, callS, List.map_cons, List.map_nil, List.length_cons, List.length_nil, List.length_map, List.replicate, List.cons_append, List.nil_append, List.getElem?_cons_zero, List.getElem?_cons_succ, List.getElem?_nil, Nat.reduceSub, Nat.reduceAdd, Nat.zero_add, List.set_cons_zero, List.set_cons_succ, Bool.not_true, Bool.not_false, if_true, if_false, Bool.false_eq_true, eq_int, ne_int, eq_bl, ne_bl, le_int, lt_int, ge_int, gt_int, sub_int, add_int, neg_int, abs_int]
theorem sp_need_copies {v : Va} (hv : pl v = true) (c : Cv) : F_need_copies [v] c = if inI 0 100 v then .ok .non c else .exn ⟨"InvalidNumber", []⟩ c := by
  cases hf : inI 0 100 v <;> simp [F_need_copies, B_need_copies, sp_fits_whole hv, hf, oSome, oNone, eSl, vSl, runF, env0, sSeq, sIf, sRet, sVal, sDrop, sPars, sUnp, sNext, sRetN, sRaise, mVal, mOwn, mNil, setE, eVar, eVarB, eK, eB1, eB2, eTup, eLst, aNil, aCons, bd_ok, bd_exn, sb_ok, sb_exn, tV, tAnd, tOr, tNot, eAnd, eOr, eNot, eIf, eChain, callS, List.map_cons, List.map_nil, List.length_cons, List.length_nil, List.length_map, List.replicate, List.cons_append, List.nil_append, List.getElem?_cons_zero, List.getElem?_cons_succ, List.getElem?_nil, Nat.reduceSub, Nat.reduceAdd, Nat.zero_add, List.set_cons_zero, List.set_cons_succ, Bool.not_true, Bool.not_false, if_true, if_false, Bool.false_eq_true, eq_int, ne_int, eq_bl, ne_bl, le_int, lt_int, ge_int, gt_int, sub_int, add_int, neg_int, abs_int]
theorem sp_need_two {p h s : Int} (g : GM p h s) {k o f : Va} (hk : pl k = true) (ho : pl o = true) (hf : pl f = true) (c : Cv) : F_need_two [mkV p h s, k, o, f] c = if fitsK p h s k then (if fitsK p h s o then (if inI 0 9 f then .ok .non c else .exn ⟨"InvalidNumber", []⟩ c) else .exn ⟨"InvalidKey", []⟩ c) else .exn ⟨"InvalidKey", []⟩ c := by
  cases h1 : fitsK p h s k with
  | false => simp [F_need_two, B_need_two, sp_need_make g, sp_need_key g hk, h1, oSome, oNone, eSl, vSl, runF, env0, sSeq, sIf, sRet, sVal, sDrop, sPars, sUnp, sNext, sRetN, sRaise, mVal, mOwn, mNil, setE, eVar, eVarB, eK, eB1, eB2, eTup, eLst, aNil, aCons, bd_ok, bd_exn, sb_ok, sb_exn, tV, tAnd, tOr, tNot, eAnd, eOr, eNot, eIf, eChain, callS, List.map_cons, List.map_nil, List.length_cons, List.length_nil, List.length_map, List.replicate, List.cons_append, List.nil_append, List.getElem?_cons_zero, List.getElem?_cons_succ, List.getElem?_nil, Nat.reduceSub, Nat.reduceAdd, Nat.zero_add, List.set_cons_zero, List.set_cons_succ, Bool.not_true, Bool.not_false, if_true, if_false, Bool.false_eq_true, eq_int, ne_int, eq_bl, ne_bl, le_int, lt_int, ge_int, gt_int, sub_int, add_int, neg_int, abs_int]
  | true =>
    cases h2 : fitsK p h s o with
    | false => simp [F_need_two, B_need_two, sp_need_make g, sp_need_key g hk, sp_need_key g ho, h1, h2, oSome, oNone, eSl, vSl, runF, env0, sSeq, sIf, sRet, sVal, sDrop, sPars, sUnp, sNext, sRetN, sRaise, mVal, mOwn, mNil, setE, eVar, eVarB, eK, eB1, eB2, eTup, eLst, aNil, aCons, bd_ok, bd_exn, sb_ok, sb_exn, tV, tAnd, tOr, tNot, eAnd, eOr, eNot, eIf, eChain, callS, List.map_cons, List.map_nil, List.length_cons, List.length_nil, List.length_map, List.replicate, List.cons_append, List.nil_append, List.getElem?_cons_zero, List.getElem?_cons_succ, List.getElem?_nil, Nat.reduceSub, Nat.reduceAdd, Nat.zero_add, List.set_cons_zero, List.set_cons_succ, Bool.not_true, Bool.not_false, if_true, if_false, Bool.false_eq_true, eq_int, ne_int, eq_bl, ne_bl, le_int, lt_int, ge_int, gt_int, sub_int, add_int, neg_int, abs_int]
    | true =>
      cases h3 : inI 0 9 f <;> simp [F_need_two, B_need_two, sp_need_make g, sp_need_key g hk, sp_need_key g ho, sp_need_fault hf, h1, h2, h3, oSome, oNone, eSl, vSl, runF, env0, sSeq, sIf, sRet, sVal, sDrop, sPars, sUnp, sNext, sRetN, sRaise, mVal, mOwn, mNil, setE, eVar, eVarB, eK, eB1, eB2, eTup, eLst, aNil, aCons, bd_ok, bd_exn, sb_ok, sb_exn, tV, tAnd, tOr, tNot, eAnd, eOr, eNot, eIf, eChain, callS, List.map_cons, List.map_nil, List.length_cons, List.length_nil, List.length_map, List.replicate, List.cons_append, List.nil_append, List.getElem?_cons_zero, List.getElem?_cons_succ, List.getElem?_nil, Nat.reduceSub, Nat.reduceAdd, Nat.zero_add, List.set_cons_zero, List.set_cons_succ, Bool.not_true, Bool.not_false, if_true, if_false, Bool.false_eq_true, eq_int, ne_int, eq_bl, ne_bl, le_int, lt_int, ge_int, gt_int, sub_int, add_int, neg_int, abs_int]
theorem sp_need_two_no {k o f : Va} (c : Cv) : F_need_two [.non, k, o, f] c = .exn ⟨"InvalidMake", []⟩ c := by
  simp [F_need_two, B_need_two, sp_need_make_no, oSome, oNone, eSl, vSl, runF, env0, sSeq, sIf, sRet, sVal, sDrop, sPars, sUnp, sNext, sRetN, sRaise, mVal, mOwn, mNil, setE, eVar, eVarB, eK, eB1, eB2, eTup, eLst, aNil, aCons, bd_ok, bd_exn, sb_ok, sb_exn, tV, tAnd, tOr, tNot, eAnd, eOr, eNot, eIf, eChain, callS, List.map_cons, List.map_nil, List.length_cons, List.length_nil, List.length_map, List.replicate, List.cons_append, List.nil_append, List.getElem?_cons_zero, List.getElem?_cons_succ, List.getElem?_nil, Nat.reduceSub, Nat.reduceAdd, Nat.zero_add, List.set_cons_zero, List.set_cons_succ, Bool.not_true, Bool.not_false, if_true, if_false, Bool.false_eq_true, eq_int, ne_int, eq_bl, ne_bl, le_int, lt_int, ge_int, gt_int, sub_int, add_int, neg_int, abs_int]
/-- a key -/
structure Ky (p h s : Int) (ns : List Int) : Prop where
  len : (ns.length : Int) = p
  bd : ∀ n ∈ ns, 0 ≤ n ∧ n ≤ h - 1
  ad : adj s ns = true
theorem pls_ints (ns : List Int) : pls (ns.map .int) = true := by
  induction ns with
  | nil => rfl
  | cons n r ih => simp [pls, pl, ih]
theorem pl_IT (ns : List Int) : pl (IT ns) = true := by simp [pl, pls_ints]
theorem Ky.fits {p h s : Int} {ns : List Int} (k : Ky p h s ns) : fitsK p h s (IT ns) = true := by
  unfold fitsK fitsC
  simp only [List.length_map, k.len, decide_true, Bool.true_and, ofInts_map, k.ad, Bool.and_true, List.all_eq_true]
  intro d hd
  obtain ⟨n, hn, e⟩ := List.mem_map.mp hd
  subst e
  have := k.bd n hn
  simp [inI, this]
theorem fits_Ky {p h s : Int} {v : Va} (f : fitsK p h s v = true) : ∃ ns, v = IT ns ∧ Ky p h s ns := by
  unfold fitsK at f
  rw [Bool.and_eq_true] at f
  cases v with
  | tup ds =>
    obtain ⟨ns, e, hl, hb⟩ := fitsC_ints f.1
    subst e
    exact ⟨ns, rfl, hl, hb, by simpa [ofInts_map] using f.2⟩
  | _ => simp [fitsC] at f
/-! ### far, towards -/
def far (a b : List Int) : Int := match (a.zip b).map (fun q => absI (q.1 - q.2)) with
  | [] => 0
  | x :: r => r.foldl max x
def clamp (d k o : Int) : Int := max (k - d) (min o (k + d))
def tow (a b : List Int) (d : Int) : List Int := (a.zip b).map fun q => clamp d q.1 q.2
theorem sp_C_widest_1 {a b : List Int} (hl : a.length ≤ 1000) (c : Cv) : C_widest_1 [.val (IT a), .val (IT b), .un, .un] c = .ok (IL ((a.zip b).map fun q => absI (q.1 - q.2))) c := by
  have := eLc_map (t := tT (tsC tN (tsC tN tsN))) (is := [2, 3]) (vs := [2, 3]) (tt := tYesS) (f := eB1 (eB2 (eVarB 2) (eVarB 3) vSub) vAbs) (fi := iZip (eVar 0) (eVar 1)) (env := [.val (IT a), .val (IT b), .un, .un]) (c := c) (c1 := c) (fun q : Int × Int => .tup [.int q.1, .int q.2]) (fun q => .int (absI (q.1 - q.2))) (a.zip b)
    (by simp [iZip, zip_tup, zip_map, oSome, oNone, eSl, vSl, runF, env0, sSeq, sIf, sRet, sVal, sDrop, sPars, sUnp, sNext, sRetN, sRaise, mVal, mOwn, mNil, setE, eVar, eVarB, eK, eB1, eB2, eTup, eLst, aNil, aCons, bd_ok, bd_exn, sb_ok, sb_exn, tV, tAnd, tOr, tNot, eAnd, eOr, eNot, eIf, eChain, callS, List.map_cons, List.map_nil, List.length_cons, List.length_nil, List.length_map, List.replicate, List.cons_append, List.nil_append, List.getElem?_cons_zero, List.getElem?_cons_succ, List.getElem?_nil, Nat.reduceSub, Nat.reduceAdd, Nat.zero_add, List.set_cons_zero, List.set_cons_succ, Bool.not_true, Bool.not_false, if_true, if_false, Bool.false_eq_true, eq_int, ne_int, eq_bl, ne_bl, le_int, lt_int, ge_int, gt_int, sub_int, add_int, neg_int, abs_int]) (l24_of (by simp; omega)) (by simp [ownFree]) fun q hq => lcS_yes (t2 _ _) (by simp [wipeE, absI, oSome, oNone, eSl, vSl, runF, env0, sSeq, sIf, sRet, sVal, sDrop, sPars, sUnp, sNext, sRetN, sRaise, mVal, mOwn, mNil, setE, eVar, eVarB, eK, eB1, eB2, eTup, eLst, aNil, aCons, bd_ok, bd_exn, sb_ok, sb_exn, tV, tAnd, tOr, tNot, eAnd, eOr, eNot, eIf, eChain, callS, List.map_cons, List.map_nil, List.length_cons, List.length_nil, List.length_map, List.replicate, List.cons_append, List.nil_append, List.getElem?_cons_zero, List.getElem?_cons_succ, List.getElem?_nil, Nat.reduceSub, Nat.reduceAdd, Nat.zero_add, List.set_cons_zero, List.set_cons_succ, Bool.not_true, Bool.not_false, if_true, if_false, Bool.false_eq_true, eq_int, ne_int, eq_bl, ne_bl, le_int, lt_int, ge_int, gt_int, sub_int, add_int, neg_int, abs_int])
  rw [C_widest_1, this]
  simp
theorem sp_widest {a b : List Int} (hl : a.length ≤ 1000) (hne : a.zip b ≠ []) (c : Cv) : F_widest [IT a, IT b] c = .ok (.int (far a b)) c := by
  have h := sp_C_widest_1 (b := b) hl c
  cases e : (a.zip b).map (fun q => absI (q.1 - q.2)) with
  | nil => simp at e; exact absurd e (by simpa using hne)
  | cons x r =>
    rw [e] at h
    simp [F_widest, B_widest, h, max_ints, far, e, -List.map_cons, oSome, oNone, eSl, vSl, runF, env0, sSeq, sIf, sRet, sVal, sDrop, sPars, sUnp, sNext, sRetN, sRaise, mVal, mOwn, mNil, setE, eVar, eVarB, eK, eB1, eB2, eTup, eLst, aNil, aCons, bd_ok, bd_exn, sb_ok, sb_exn, tV, tAnd, tOr, tNot, eAnd, eOr, eNot, eIf, eChain, callS, List.map_cons, List.map_nil, List.length_cons, List.length_nil, List.length_map, List.replicate, List.cons_append, List.nil_append, List.getElem?_cons_zero, List.getElem?_cons_succ, List.getElem?_nil, Nat.reduceSub, Nat.reduceAdd, Nat.zero_add, List.set_cons_zero, List.set_cons_succ, Bool.not_true, Bool.not_false, if_true, if_false, Bool.false_eq_true, eq_int, ne_int, eq_bl, ne_bl, le_int, lt_int, ge_int, gt_int, sub_int, add_int, neg_int, abs_int]
theorem sp_between (a b d : Int) (c : Cv) : F_between [.int a, .int b, .int d] c = .ok (.int (if (if d < b then d else b) > a then (if d < b then d else b) else a)) c := by
  simp [F_between, B_between, vMin2, vMax2, oSome, oNone, eSl, vSl, runF, env0, sSeq, sIf, sRet, sVal, sDrop, sPars, sUnp, sNext, sRetN, sRaise, mVal, mOwn, mNil, setE, eVar, eVarB, eK, eB1, eB2, eTup, eLst, aNil, aCons, bd_ok, bd_exn, sb_ok, sb_exn, tV, tAnd, tOr, tNot, eAnd, eOr, eNot, eIf, eChain, callS, List.map_cons, List.map_nil, List.length_cons, List.length_nil, List.length_map, List.replicate, List.cons_append, List.nil_append, List.getElem?_cons_zero, List.getElem?_cons_succ, List.getElem?_nil, Nat.reduceSub, Nat.reduceAdd, Nat.zero_add, List.set_cons_zero, List.set_cons_succ, Bool.not_true, Bool.not_false, if_true, if_false, Bool.false_eq_true, eq_int, ne_int, eq_bl, ne_bl, le_int, lt_int, ge_int, gt_int, sub_int, add_int, neg_int, abs_int]
def cl (d k o : Int) : Int := if (if k + d < o then k + d else o) > k - d then (if k + d < o then k + d else o) else k - d
theorem cl_eq (d k o : Int) : cl d k o = clamp d k o := by unfold cl clamp; split <;> split at * <;> omega
theorem sp_C_towards_1 {a b : List Int} {d : Int} (hl : a.length ≤ 1000) (c : Cv) : C_towards_1 [.val (IT a), .val (IT b), .val (.int d), .un, .un] c = .ok (IL (tow a b d)) c := by
  have := eLc_map (t := tT (tsC tN (tsC tN tsN))) (is := [3, 4]) (vs := [3, 4]) (tt := tYesS) (f := callS F_between (aCons (eB2 (eVarB 3) (eVarB 2) vSub) (aCons (eVar 4) (aCons (eB2 (eVarB 3) (eVarB 2) vAdd) aNil)))) (fi := iZip (eVar 0) (eVar 1)) (env := [.val (IT a), .val (IT b), .val (.int d), .un, .un]) (c := c) (c1 := c) (fun q : Int × Int => .tup [.int q.1, .int q.2]) (fun q => .int (clamp d q.1 q.2)) (a.zip b)
    (by simp [iZip, zip_tup, zip_map, oSome, oNone, eSl, vSl, runF, env0, sSeq, sIf, sRet, sVal, sDrop, sPars, sUnp, sNext, sRetN, sRaise, mVal, mOwn, mNil, setE, eVar, eVarB, eK, eB1, eB2, eTup, eLst, aNil, aCons, bd_ok, bd_exn, sb_ok, sb_exn, tV, tAnd, tOr, tNot, eAnd, eOr, eNot, eIf, eChain, callS, List.map_cons, List.map_nil, List.length_cons, List.length_nil, List.length_map, List.replicate, List.cons_append, List.nil_append, List.getElem?_cons_zero, List.getElem?_cons_succ, List.getElem?_nil, Nat.reduceSub, Nat.reduceAdd, Nat.zero_add, List.set_cons_zero, List.set_cons_succ, Bool.not_true, Bool.not_false, if_true, if_false, Bool.false_eq_true, eq_int, ne_int, eq_bl, ne_bl, le_int, lt_int, ge_int, gt_int, sub_int, add_int, neg_int, abs_int]) (l24_of (by simp; omega)) (by simp [ownFree]) fun q hq => lcS_yes (t2 _ _) (by simp [wipeE, sp_between, ← cl_eq, cl, oSome, oNone, eSl, vSl, runF, env0, sSeq, sIf, sRet, sVal, sDrop, sPars, sUnp, sNext, sRetN, sRaise, mVal, mOwn, mNil, setE, eVar, eVarB, eK, eB1, eB2, eTup, eLst, aNil, aCons, bd_ok, bd_exn, sb_ok, sb_exn, tV, tAnd, tOr, tNot, eAnd, eOr, eNot, eIf, eChain, callS, List.map_cons, List.map_nil, List.length_cons, List.length_nil, List.length_map, List.replicate, List.cons_append, List.nil_append, List.getElem?_cons_zero, List.getElem?_cons_succ, List.getElem?_nil, Nat.reduceSub, Nat.reduceAdd, Nat.zero_add, List.set_cons_zero, List.set_cons_succ, Bool.not_true, Bool.not_false, if_true, if_false, Bool.false_eq_true, eq_int, ne_int, eq_bl, ne_bl, le_int, lt_int, ge_int, gt_int, sub_int, add_int, neg_int, abs_int])
  rw [C_towards_1, this]
  simp [tow]
theorem sp_towards {a b : List Int} {d : Int} (hl : a.length ≤ 1000) (c : Cv) : F_towards [IT a, IT b, .int d] c = .ok (IT (tow a b d)) c := by
  simp [F_towards, B_towards, sp_C_towards_1 hl, vTup, oSome, oNone, eSl, vSl, runF, env0, sSeq, sIf, sRet, sVal, sDrop, sPars, sUnp, sNext, sRetN, sRaise, mVal, mOwn, mNil, setE, eVar, eVarB, eK, eB1, eB2, eTup, eLst, aNil, aCons, bd_ok, bd_exn, sb_ok, sb_exn, tV, tAnd, tOr, tNot, eAnd, eOr, eNot, eIf, eChain, callS, List.map_cons, List.map_nil, List.length_cons, List.length_nil, List.length_map, List.replicate, List.cons_append, List.nil_append, List.getElem?_cons_zero, List.getElem?_cons_succ, List.getElem?_nil, Nat.reduceSub, Nat.reduceAdd, Nat.zero_add, List.set_cons_zero, List.set_cons_succ, Bool.not_true, Bool.not_false, if_true, if_false, Bool.false_eq_true, eq_int, ne_int, eq_bl, ne_bl, le_int, lt_int, ge_int, gt_int, sub_int, add_int, neg_int, abs_int]
theorem sp_C__law_towards_1 {a b : List Int} {d : Int} (hl : a.length ≤ 1000) (c : Cv) : C__law_towards_1 [.val (IT a), .val (IT b), .val (.int d), .un, .un] c = .ok (IL (tow a b d)) c := by
  have := eLc_map (t := tT (tsC tN (tsC tN tsN))) (is := [3, 4]) (vs := [3, 4]) (tt := tYesS) (f := eB2 (eB2 (eVarB 3) (eVarB 2) vSub) (eB2 (eVarB 4) (eB2 (eVarB 3) (eVarB 2) vAdd) vMin2) vMax2) (fi := iZip (eVar 0) (eVar 1)) (env := [.val (IT a), .val (IT b), .val (.int d), .un, .un]) (c := c) (c1 := c) (fun q : Int × Int => .tup [.int q.1, .int q.2]) (fun q => .int (clamp d q.1 q.2)) (a.zip b)
    (by simp [iZip, zip_tup, zip_map, oSome, oNone, eSl, vSl, runF, env0, sSeq, sIf, sRet, sVal, sDrop, sPars, sUnp, sNext, sRetN, sRaise, mVal, mOwn, mNil, setE, eVar, eVarB, eK, eB1, eB2, eTup, eLst, aNil, aCons, bd_ok, bd_exn, sb_ok, sb_exn, tV, tAnd, tOr, tNot, eAnd, eOr, eNot, eIf, eChain, callS, List.map_cons, List.map_nil, List.length_cons, List.length_nil, List.length_map, List.replicate, List.cons_append, List.nil_append, List.getElem?_cons_zero, List.getElem?_cons_succ, List.getElem?_nil, Nat.reduceSub, Nat.reduceAdd, Nat.zero_add, List.set_cons_zero, List.set_cons_succ, Bool.not_true, Bool.not_false, if_true, if_false, Bool.false_eq_true, eq_int, ne_int, eq_bl, ne_bl, le_int, lt_int, ge_int, gt_int, sub_int, add_int, neg_int, abs_int]) (l24_of (by simp; omega)) (by simp [ownFree]) fun q hq => lcS_yes (t2 _ _) (by simp [wipeE, vMax2, vMin2, ← cl_eq, cl, oSome, oNone, eSl, vSl, runF, env0, sSeq, sIf, sRet, sVal, sDrop, sPars, sUnp, sNext, sRetN, sRaise, mVal, mOwn, mNil, setE, eVar, eVarB, eK, eB1, eB2, eTup, eLst, aNil, aCons, bd_ok, bd_exn, sb_ok, sb_exn, tV, tAnd, tOr, tNot, eAnd, eOr, eNot, eIf, eChain, callS, List.map_cons, List.map_nil, List.length_cons, List.length_nil, List.length_map, List.replicate, List.cons_append, List.nil_append, List.getElem?_cons_zero, List.getElem?_cons_succ, List.getElem?_nil, Nat.reduceSub, Nat.reduceAdd, Nat.zero_add, List.set_cons_zero, List.set_cons_succ, Bool.not_true, Bool.not_false, if_true, if_false, Bool.false_eq_true, eq_int, ne_int, eq_bl, ne_bl, le_int, lt_int, ge_int, gt_int, sub_int, add_int, neg_int, abs_int])
  rw [C__law_towards_1, this]
  simp [tow]
theorem sp__law_towards {a b : List Int} {d : Int} (hl : a.length ≤ 1000) (c : Cv) : F__law_towards [IT a, IT b, .int d] c = .ok (IT (tow a b d)) c := by
  simp [F__law_towards, B__law_towards, sp_C__law_towards_1 hl, vTup, oSome, oNone, eSl, vSl, runF, env0, sSeq, sIf, sRet, sVal, sDrop, sPars, sUnp, sNext, sRetN, sRaise, mVal, mOwn, mNil, setE, eVar, eVarB, eK, eB1, eB2, eTup, eLst, aNil, aCons, bd_ok, bd_exn, sb_ok, sb_exn, tV, tAnd, tOr, tNot, eAnd, eOr, eNot, eIf, eChain, callS, List.map_cons, List.map_nil, List.length_cons, List.length_nil, List.length_map, List.replicate, List.cons_append, List.nil_append, List.getElem?_cons_zero, List.getElem?_cons_succ, List.getElem?_nil, Nat.reduceSub, Nat.reduceAdd, Nat.zero_add, List.set_cons_zero, List.set_cons_succ, Bool.not_true, Bool.not_false, if_true, if_false, Bool.false_eq_true, eq_int, ne_int, eq_bl, ne_bl, le_int, lt_int, ge_int, gt_int, sub_int, add_int, neg_int, abs_int]
theorem sp_C__law_far_1 {a b : List Int} (hl : a.length ≤ 1000) (c : Cv) : C__law_far_1 [.val (IT a), .val (IT b), .un, .un] c = .ok (IL ((a.zip b).map fun q => absI (q.1 - q.2))) c := sp_C_widest_1 hl c
theorem sp__law_far {a b : List Int} (hl : a.length ≤ 1000) (hne : a.zip b ≠ []) (c : Cv) : F__law_far [IT a, IT b] c = .ok (.int (far a b)) c := sp_widest hl hne c
def cpf (d f : Int) : Va := if d = 0 then .int 0 else if f > 0 then .int ((d + f - 1) / f) else .non
theorem sp_copies_for {d f : Int} (h9 : f ≤ 9) (c : Cv) : F_copies_for [.int d, .int f] c = .ok (cpf d f) c := by
  unfold cpf
  by_cases h : d = 0
  · simp [F_copies_for, B_copies_for, h, oSome, oNone, eSl, vSl, runF, env0, sSeq, sIf, sRet, sVal, sDrop, sPars, sUnp, sNext, sRetN, sRaise, mVal, mOwn, mNil, setE, eVar, eVarB, eK, eB1, eB2, eTup, eLst, aNil, aCons, bd_ok, bd_exn, sb_ok, sb_exn, tV, tAnd, tOr, tNot, eAnd, eOr, eNot, eIf, eChain, callS, List.map_cons, List.map_nil, List.length_cons, List.length_nil, List.length_map, List.replicate, List.cons_append, List.nil_append, List.getElem?_cons_zero, List.getElem?_cons_succ, List.getElem?_nil, Nat.reduceSub, Nat.reduceAdd, Nat.zero_add, List.set_cons_zero, List.set_cons_succ, Bool.not_true, Bool.not_false, if_true, if_false, Bool.false_eq_true, eq_int, ne_int, eq_bl, ne_bl, le_int, lt_int, ge_int, gt_int, sub_int, add_int, neg_int, abs_int]
  · by_cases h2 : 0 < f
    · have := div_int (d + f - 1) f c h2 (by omega)
      simp [F_copies_for, B_copies_for, h, h2, this, oSome, oNone, eSl, vSl, runF, env0, sSeq, sIf, sRet, sVal, sDrop, sPars, sUnp, sNext, sRetN, sRaise, mVal, mOwn, mNil, setE, eVar, eVarB, eK, eB1, eB2, eTup, eLst, aNil, aCons, bd_ok, bd_exn, sb_ok, sb_exn, tV, tAnd, tOr, tNot, eAnd, eOr, eNot, eIf, eChain, callS, List.map_cons, List.map_nil, List.length_cons, List.length_nil, List.length_map, List.replicate, List.cons_append, List.nil_append, List.getElem?_cons_zero, List.getElem?_cons_succ, List.getElem?_nil, Nat.reduceSub, Nat.reduceAdd, Nat.zero_add, List.set_cons_zero, List.set_cons_succ, Bool.not_true, Bool.not_false, if_true, if_false, Bool.false_eq_true, eq_int, ne_int, eq_bl, ne_bl, le_int, lt_int, ge_int, gt_int, sub_int, add_int, neg_int, abs_int]
    · simp [F_copies_for, B_copies_for, h, h2, oSome, oNone, eSl, vSl, runF, env0, sSeq, sIf, sRet, sVal, sDrop, sPars, sUnp, sNext, sRetN, sRaise, mVal, mOwn, mNil, setE, eVar, eVarB, eK, eB1, eB2, eTup, eLst, aNil, aCons, bd_ok, bd_exn, sb_ok, sb_exn, tV, tAnd, tOr, tNot, eAnd, eOr, eNot, eIf, eChain, callS, List.map_cons, List.map_nil, List.length_cons, List.length_nil, List.length_map, List.replicate, List.cons_append, List.nil_append, List.getElem?_cons_zero, List.getElem?_cons_succ, List.getElem?_nil, Nat.reduceSub, Nat.reduceAdd, Nat.zero_add, List.set_cons_zero, List.set_cons_succ, Bool.not_true, Bool.not_false, if_true, if_false, Bool.false_eq_true, eq_int, ne_int, eq_bl, ne_bl, le_int, lt_int, ge_int, gt_int, sub_int, add_int, neg_int, abs_int]
section
variable {p h s f : Int} {k o : List Int}
theorem Ky.l (kk : Ky p h s k) (g : GM p h s) : k.length ≤ 1000 := by have := kk.len; have := g.p8; omega
theorem Ky.zne (kk : Ky p h s k) (ko : Ky p h s o) (g : GM p h s) : k.zip o ≠ [] := by
  have h1 := kk.len; have h2 := ko.len; have h3 := g.p1
  cases k with
  | nil => simp at h1; omega
  | cons a r =>
    cases o with
    | nil => simp at h2; omega
    | cons b q => simp
theorem sp_need_two_ok (g : GM p h s) (kk : Ky p h s k) (ko : Ky p h s o) (f0 : 0 ≤ f) (f9 : f ≤ 9) (c : Cv) : F_need_two [mkV p h s, IT k, IT o, .int f] c = .ok .non c := by
  rw [sp_need_two g (pl_IT k) (pl_IT o) rfl, kk.fits, ko.fits]
  simp [inI, f0, f9]
theorem sp_copies_needed (g : GM p h s) (kk : Ky p h s k) (ko : Ky p h s o) (f0 : 0 ≤ f) (f9 : f ≤ 9) (c : Cv) : F_copies_needed [mkV p h s, IT k, IT o, .int f] c = .ok (cpf (far k o) f) c := by
  simp [F_copies_needed, B_copies_needed, sp_need_two_ok g kk ko f0 f9, sp_widest (kk.l g) (kk.zne ko g), sp_copies_for f9, -List.map_cons, oSome, oNone, eSl, vSl, runF, env0, sSeq, sIf, sRet, sVal, sDrop, sPars, sUnp, sNext, sRetN, sRaise, mVal, mOwn, mNil, setE, eVar, eVarB, eK, eB1, eB2, eTup, eLst, aNil, aCons, bd_ok, bd_exn, sb_ok, sb_exn, tV, tAnd, tOr, tNot, eAnd, eOr, eNot, eIf, eChain, callS, List.map_cons, List.map_nil, List.length_cons, List.length_nil, List.length_map, List.replicate, List.cons_append, List.nil_append, List.getElem?_cons_zero, List.getElem?_cons_succ, List.getElem?_nil, Nat.reduceSub, Nat.reduceAdd, Nat.zero_add, List.set_cons_zero, List.set_cons_succ, Bool.not_true, Bool.not_false, if_true, if_false, Bool.false_eq_true, eq_int, ne_int, eq_bl, ne_bl, le_int, lt_int, ge_int, gt_int, sub_int, add_int, neg_int, abs_int]
/-- the rows of copies -/
def rowsV (k o : List Int) (f : Int) (n : Nat) : List Va := (List.range n).map fun (t : Nat) => IT (tow k o (f * t))
theorem sp_C_copy_row_1 (hl : k.length ≤ 1000) {m : Nat} (hm : m ≤ 900) (f9 : f.natAbs < 18446744073709551616) (M : Va) (u : Sl) (c : Cv) : C_copy_row_1 [.val M, .val (IT k), .val (IT o), .val (.int f), .val (.int (m : Int)), .un] c = .ok (.lst (rowsV k o f (m + 1))) c := by
  have e := eLc_map (t := tN) (is := [5]) (vs := [5]) (tt := tYesS) (f := callS F_towards (aCons (eVar 1) (aCons (eVar 2) (aCons (eB2 (eVarB 3) (eVarB 5) vMulW) aNil)))) (fi := iRange1 (eB2 (eVarB 4) (eK (.int 1)) vAdd)) (env := [.val M, .val (IT k), .val (IT o), .val (.int f), .val (.int (m : Int)), .un]) (c := c) (c1 := c) (fun (t : Nat) => .int (t : Int)) (fun (t : Nat) => IT (tow k o (f * t))) (List.range (m + 1))
    (rng (a := (m : Int) + 1) (m := m + 1) (by omega) (by omega) _ _ _ (by simp [oSome, oNone, eSl, vSl, runF, env0, sSeq, sIf, sRet, sVal, sDrop, sPars, sUnp, sNext, sRetN, sRaise, mVal, mOwn, mNil, setE, eVar, eVarB, eK, eB1, eB2, eTup, eLst, aNil, aCons, bd_ok, bd_exn, sb_ok, sb_exn, tV, tAnd, tOr, tNot, eAnd, eOr, eNot, eIf, eChain, callS, List.map_cons, List.map_nil, List.length_cons, List.length_nil, List.length_map, List.replicate, List.cons_append, List.nil_append, List.getElem?_cons_zero, List.getElem?_cons_succ, List.getElem?_nil, Nat.reduceSub, Nat.reduceAdd, Nat.zero_add, List.set_cons_zero, List.set_cons_succ, Bool.not_true, Bool.not_false, if_true, if_false, Bool.false_eq_true, eq_int, ne_int, eq_bl, ne_bl, le_int, lt_int, ge_int, gt_int, sub_int, add_int, neg_int, abs_int])) (l24_of (by simp; omega)) (by simp [ownFree]) fun t ht => lcS_yes rfl (by
        have := mul_int f (t : Int) c (.inl f9)
        simp [wipeE, this, sp_towards hl, oSome, oNone, eSl, vSl, runF, env0, sSeq, sIf, sRet, sVal, sDrop, sPars, sUnp, sNext, sRetN, sRaise, mVal, mOwn, mNil, setE, eVar, eVarB, eK, eB1, eB2, eTup, eLst, aNil, aCons, bd_ok, bd_exn, sb_ok, sb_exn, tV, tAnd, tOr, tNot, eAnd, eOr, eNot, eIf, eChain, callS, List.map_cons, List.map_nil, List.length_cons, List.length_nil, List.length_map, List.replicate, List.cons_append, List.nil_append, List.getElem?_cons_zero, List.getElem?_cons_succ, List.getElem?_nil, Nat.reduceSub, Nat.reduceAdd, Nat.zero_add, List.set_cons_zero, List.set_cons_succ, Bool.not_true, Bool.not_false, if_true, if_false, Bool.false_eq_true, eq_int, ne_int, eq_bl, ne_bl, le_int, lt_int, ge_int, gt_int, sub_int, add_int, neg_int, abs_int])
  rw [C_copy_row_1, e, rowsV]
theorem na64 {f : Int} (f0 : 0 ≤ f) (f9 : f ≤ 9) : f.natAbs < 18446744073709551616 := Nat.lt_of_le_of_lt (m := 9) (by omega) (by decide)
theorem far_ge {a b : List Int} {q : Int × Int} (hq : q ∈ a.zip b) : absI (q.1 - q.2) ≤ far a b := by
  have hm : absI (q.1 - q.2) ∈ (a.zip b).map (fun q => absI (q.1 - q.2)) := List.mem_map.mpr ⟨q, hq, rfl⟩
  unfold far
  split
  · rename_i e; rw [e] at hm; cases hm
  · rename_i x r e; rw [e] at hm; exact foldl_max_ge r x _ hm
theorem far_mem {a b : List Int} (h : a.zip b ≠ []) : ∃ q ∈ a.zip b, far a b = absI (q.1 - q.2) := by
  unfold far
  split
  · rename_i e; simp at e; exact absurd e (by simpa using h)
  · rename_i x r e
    have hm := foldl_max_mem r x
    rw [← e] at hm
    obtain ⟨q, h1, h2⟩ := List.mem_map.mp hm
    exact ⟨q, h1, h2.symm⟩
theorem absI_nn (x : Int) : 0 ≤ absI x := by unfold absI; split <;> omega
theorem far_bd (g : GM p h s) (kk : Ky p h s k) (ko : Ky p h s o) : 0 ≤ far k o ∧ far k o ≤ 9 := by
  obtain ⟨q, h1, h2⟩ := far_mem (kk.zne ko g)
  have a1 := kk.bd q.1 (List.of_mem_zip h1).1
  have a2 := ko.bd q.2 (List.of_mem_zip h1).2
  have := g.h10
  rw [h2]
  refine ⟨absI_nn _, ?_⟩
  unfold absI
  split <;> omega
theorem cpf_nat (g : GM p h s) (kk : Ky p h s k) (ko : Ky p h s o) (f0 : 0 < f) (f9 : f ≤ 9) : ∃ m : Nat, cpf (far k o) f = .int (m : Int) ∧ m ≤ 9 ∧ far k o ≤ f * (m : Int) ∧ (∀ t : Int, t < (m : Int) → f * t < far k o) := by
  have hb := far_bd g kk ko
  unfold cpf
  generalize far k o = d at *
  by_cases h : d = 0
  · refine ⟨0, by simp [h], by omega, by simp [h], fun t ht => ?_⟩
    rw [h]
    exact Int.mul_neg_of_pos_of_neg f0 (by omega)
  · rw [if_neg h, if_pos f0]
    have q1 : 0 ≤ (d + f - 1) / f := Int.ediv_nonneg (by omega) (by omega)
    have q2 : f * ((d + f - 1) / f) + (d + f - 1) % f = d + f - 1 := Int.mul_ediv_add_emod _ _
    have q3 := Int.emod_nonneg (d + f - 1) (show f ≠ 0 by omega)
    have q4 := Int.emod_lt_of_pos (d + f - 1) f0
    have q5 : (d + f - 1) / f ≤ 9 := by
      have e1 : (d + f - 1) / f ≤ (9 * f) / f := Int.ediv_le_ediv f0 (by
        have : 9 ≤ 9 * f := by omega
        by_cases f1 : f = 1
        · subst f1; omega
        · omega)
      rwa [Int.mul_ediv_cancel _ (by omega)] at e1
    refine ⟨((d + f - 1) / f).toNat, by rw [Int.toNat_of_nonneg q1], by omega, by rw [Int.toNat_of_nonneg q1]; omega, fun t ht => ?_⟩
    rw [Int.toNat_of_nonneg q1] at ht
    have : f * t ≤ f * ((d + f - 1) / f - 1) := Int.mul_le_mul_of_nonneg_left (by omega) (by omega)
    rw [Int.mul_sub, Int.mul_one] at this
    omega
theorem sp_copy_row (g : GM p h s) (kk : Ky p h s k) (ko : Ky p h s o) (f0 : 0 ≤ f) (f9 : f ≤ 9) (c : Cv) {m : Nat} (hm : m ≤ 900) (e : cpf (far k o) f = .int (m : Int)) : F_copy_row [mkV p h s, IT k, IT o, .int f] c = .ok (.tup (rowsV k o f (m + 1))) c := by
  have hr := sp_C_copy_row_1 (o := o) (f := f) (kk.l g) hm (na64 f0 f9) (mkV p h s) .un c
  simp [F_copy_row, B_copy_row, sp_need_two_ok g kk ko f0 f9, sp_widest (kk.l g) (kk.zne ko g), sp_copies_for f9, e, hr, vIs, vTup, -List.map_cons, oSome, oNone, eSl, vSl, runF, env0, sSeq, sIf, sRet, sVal, sDrop, sPars, sUnp, sNext, sRetN, sRaise, mVal, mOwn, mNil, setE, eVar, eVarB, eK, eB1, eB2, eTup, eLst, aNil, aCons, bd_ok, bd_exn, sb_ok, sb_exn, tV, tAnd, tOr, tNot, eAnd, eOr, eNot, eIf, eChain, callS, List.map_cons, List.map_nil, List.length_cons, List.length_nil, List.length_map, List.replicate, List.cons_append, List.nil_append, List.getElem?_cons_zero, List.getElem?_cons_succ, List.getElem?_nil, Nat.reduceSub, Nat.reduceAdd, Nat.zero_add, List.set_cons_zero, List.set_cons_succ, Bool.not_true, Bool.not_false, if_true, if_false, Bool.false_eq_true, eq_int, ne_int, eq_bl, ne_bl, le_int, lt_int, ge_int, gt_int, sub_int, add_int, neg_int, abs_int]
theorem sp_copy_row_no (g : GM p h s) (kk : Ky p h s k) (ko : Ky p h s o) (f0 : 0 ≤ f) (f9 : f ≤ 9) (c : Cv) (e : cpf (far k o) f = .non) : F_copy_row [mkV p h s, IT k, IT o, .int f] c = .ok .non c := by
  simp [F_copy_row, B_copy_row, sp_need_two_ok g kk ko f0 f9, sp_widest (kk.l g) (kk.zne ko g), sp_copies_for f9, e, vIs, vTup, -List.map_cons, oSome, oNone, eSl, vSl, runF, env0, sSeq, sIf, sRet, sVal, sDrop, sPars, sUnp, sNext, sRetN, sRaise, mVal, mOwn, mNil, setE, eVar, eVarB, eK, eB1, eB2, eTup, eLst, aNil, aCons, bd_ok, bd_exn, sb_ok, sb_exn, tV, tAnd, tOr, tNot, eAnd, eOr, eNot, eIf, eChain, callS, List.map_cons, List.map_nil, List.length_cons, List.length_nil, List.length_map, List.replicate, List.cons_append, List.nil_append, List.getElem?_cons_zero, List.getElem?_cons_succ, List.getElem?_nil, Nat.reduceSub, Nat.reduceAdd, Nat.zero_add, List.set_cons_zero, List.set_cons_succ, Bool.not_true, Bool.not_false, if_true, if_false, Bool.false_eq_true, eq_int, ne_int, eq_bl, ne_bl, le_int, lt_int, ge_int, gt_int, sub_int, add_int, neg_int, abs_int]
end
/-! ### keys, as the law has them -/
theorem fm_empty {α β : Type} (b : α → Bool) (v : α → β) (xs : List α) : (xs.filterMap fun x => if b x then some (v x) else none).isEmpty = xs.all (fun x => !b x) := by
  induction xs with
  | nil => rfl
  | cons x xs ih => cases h : b x <;> simp [h, ih]
theorem wfs_all {n : Nat} : ∀ {ds : List Va}, (∀ d ∈ ds, wf n d = true) → wfs n ds = true
  | [], _ => by simp [wfs]
  | d :: r, h => by rw [wfs, h d (by simp), wfs_all fun x hx => h x (by simp [hx])]; rfl
theorem wfs_mem {n : Nat} : ∀ {ds : List Va}, wfs n ds = true → ∀ d ∈ ds, wf n d = true
  | d :: r, h, x, hx => by
    rw [wfs, Bool.and_eq_true] at h
    rcases List.mem_cons.mp hx with e | e
    · rw [e]; exact h.1
    · exact wfs_mem h.2 x e
theorem wfs_fm {α : Type} {n : Nat} {b : α → Bool} {v : α → Va} {xs : List α} (h : ∀ x ∈ xs, wf n (v x) = true) : wfs n (xs.filterMap fun x => if b x then some (v x) else none) = true := wfs_all fun d hd => by
  obtain ⟨x, hx, e⟩ := List.mem_filterMap.mp hd
  split at e
  · cases e; exact h x hx
  · cases e
mutual
theorem wf_up : ∀ (n m : Nat) (d : Va), n ≤ m → wf n d = true → wf m d = true
  | 0, _, d, _, h => by simp [wf] at h
  | n + 1, 0, d, hl, h => by omega
  | n + 1, m + 1, d, hl, h => by
    cases d with
    | tup ds => rw [wf] at h ⊢; exact wfs_up n m ds (by omega) h
    | lst ds => rw [wf] at h ⊢; exact wfs_up n m ds (by omega) h
    | _ => first | (simp [wf] at h; done) | simp [wf]
theorem wfs_up : ∀ (n m : Nat) (ds : List Va), n ≤ m → wfs n ds = true → wfs m ds = true
  | _, _, [], _, _ => by simp [wfs]
  | n, m, d :: r, hl, h => by
    rw [wfs, Bool.and_eq_true] at h
    rw [wfs, wf_up n m d hl h.1, wfs_up n m r hl h.2]; rfl
end
mutual
theorem wf_pl : ∀ (n : Nat) (d : Va), wf n d = true → pl d = true
  | 0, d, h => by simp [wf] at h
  | n + 1, d, h => by
    cases d with
    | tup ds => rw [wf] at h; rw [pl]; exact wfs_pl n ds h
    | lst ds => rw [wf] at h; rw [pl]; exact wfs_pl n ds h
    | _ => first | (simp [wf] at h; done) | simp [pl]
theorem wfs_pl : ∀ (n : Nat) (ds : List Va), wfs n ds = true → pls ds = true
  | _, [], _ => rfl
  | n, d :: r, h => by
    rw [wfs, Bool.and_eq_true] at h
    rw [pls, wf_pl n d h.1, wfs_pl n r h.2]; rfl
end
section
variable {p h s f : Int}
theorem sp_C__law_is_key_1 {ds : List Va} (hw : wfs 30 ds = true) (hl : ds.length ≤ 1000) (M : Va) (c : Cv) : C__law_is_key_1 [.val M, .val (.tup ds), .un, .un, .un] c = .ok (.lst (ds.filterMap fun d => if !isI d then some d else none)) c := by
  refine eLc_pure (α := Va) id (fun d => if !isI d then some d else none) ds ?_ (l24_of hl) (by simp [ownFree]) fun d hd => lcS_if rfl ?_ fun _ => ?_
  · simp [iVal, vIt, oSome, oNone, eSl, vSl, runF, env0, sSeq, sIf, sRet, sVal, sDrop, sPars, sUnp, sNext, sRetN, sRaise, mVal, mOwn, mNil, setE, eVar, eVarB, eK, eB1, eB2, eTup, eLst, aNil, aCons, bd_ok, bd_exn, sb_ok, sb_exn, tV, tAnd, tOr, tNot, eAnd, eOr, eNot, eIf, eChain, callS, List.map_cons, List.map_nil, List.length_cons, List.length_nil, List.length_map, List.replicate, List.cons_append, List.nil_append, List.getElem?_cons_zero, List.getElem?_cons_succ, List.getElem?_nil, Nat.reduceSub, Nat.reduceAdd, Nat.zero_add, List.set_cons_zero, List.set_cons_succ, Bool.not_true, Bool.not_false, if_true, if_false, Bool.false_eq_true, eq_int, ne_int, eq_bl, ne_bl, le_int, lt_int, ge_int, gt_int, sub_int, add_int, neg_int, abs_int]
  · have := wfs_mem hw d hd
    cases d <;> first | (simp [wf] at this; done) | simp [wipeE, vIsi, vtOf, isT, isI, oSome, oNone, eSl, vSl, runF, env0, sSeq, sIf, sRet, sVal, sDrop, sPars, sUnp, sNext, sRetN, sRaise, mVal, mOwn, mNil, setE, eVar, eVarB, eK, eB1, eB2, eTup, eLst, aNil, aCons, bd_ok, bd_exn, sb_ok, sb_exn, tV, tAnd, tOr, tNot, eAnd, eOr, eNot, eIf, eChain, callS, List.map_cons, List.map_nil, List.length_cons, List.length_nil, List.length_map, List.replicate, List.cons_append, List.nil_append, List.getElem?_cons_zero, List.getElem?_cons_succ, List.getElem?_nil, Nat.reduceSub, Nat.reduceAdd, Nat.zero_add, List.set_cons_zero, List.set_cons_succ, Bool.not_true, Bool.not_false, if_true, if_false, Bool.false_eq_true, eq_int, ne_int, eq_bl, ne_bl, le_int, lt_int, ge_int, gt_int, sub_int, add_int, neg_int, abs_int]
  · simp [wipeE, oSome, oNone, eSl, vSl, runF, env0, sSeq, sIf, sRet, sVal, sDrop, sPars, sUnp, sNext, sRetN, sRaise, mVal, mOwn, mNil, setE, eVar, eVarB, eK, eB1, eB2, eTup, eLst, aNil, aCons, bd_ok, bd_exn, sb_ok, sb_exn, tV, tAnd, tOr, tNot, eAnd, eOr, eNot, eIf, eChain, callS, List.map_cons, List.map_nil, List.length_cons, List.length_nil, List.length_map, List.replicate, List.cons_append, List.nil_append, List.getElem?_cons_zero, List.getElem?_cons_succ, List.getElem?_nil, Nat.reduceSub, Nat.reduceAdd, Nat.zero_add, List.set_cons_zero, List.set_cons_succ, Bool.not_true, Bool.not_false, if_true, if_false, Bool.false_eq_true, eq_int, ne_int, eq_bl, ne_bl, le_int, lt_int, ge_int, gt_int, sub_int, add_int, neg_int, abs_int]
theorem sp_C__law_is_key_2 {ns : List Int} (hl : ns.length ≤ 1000) (c : Cv) : C__law_is_key_2 [.val (mkV p h s), .val (IT ns), .un, .un, .un] c = .ok (.lst (ns.filterMap fun n => if !(decide (0 ≤ n) && decide (n < h)) then some (.int n) else none)) c := by
  refine eLc_pure (α := Int) Va.int (fun n => if !(decide (0 ≤ n) && decide (n < h)) then some (.int n) else none) ns ?_ (l24_of hl) (by simp [ownFree]) fun d hd => lcS_if rfl ?_ fun _ => ?_
  · simp [iVal, vIt, oSome, oNone, eSl, vSl, runF, env0, sSeq, sIf, sRet, sVal, sDrop, sPars, sUnp, sNext, sRetN, sRaise, mVal, mOwn, mNil, setE, eVar, eVarB, eK, eB1, eB2, eTup, eLst, aNil, aCons, bd_ok, bd_exn, sb_ok, sb_exn, tV, tAnd, tOr, tNot, eAnd, eOr, eNot, eIf, eChain, callS, List.map_cons, List.map_nil, List.length_cons, List.length_nil, List.length_map, List.replicate, List.cons_append, List.nil_append, List.getElem?_cons_zero, List.getElem?_cons_succ, List.getElem?_nil, Nat.reduceSub, Nat.reduceAdd, Nat.zero_add, List.set_cons_zero, List.set_cons_succ, Bool.not_true, Bool.not_false, if_true, if_false, Bool.false_eq_true, eq_int, ne_int, eq_bl, ne_bl, le_int, lt_int, ge_int, gt_int, sub_int, add_int, neg_int, abs_int]
  · by_cases h0 : 0 ≤ d <;> by_cases h1 : d < h <;> simp [wipeE, ix1, h0, h1, oSome, oNone, eSl, vSl, runF, env0, sSeq, sIf, sRet, sVal, sDrop, sPars, sUnp, sNext, sRetN, sRaise, mVal, mOwn, mNil, setE, eVar, eVarB, eK, eB1, eB2, eTup, eLst, aNil, aCons, bd_ok, bd_exn, sb_ok, sb_exn, tV, tAnd, tOr, tNot, eAnd, eOr, eNot, eIf, eChain, callS, List.map_cons, List.map_nil, List.length_cons, List.length_nil, List.length_map, List.replicate, List.cons_append, List.nil_append, List.getElem?_cons_zero, List.getElem?_cons_succ, List.getElem?_nil, Nat.reduceSub, Nat.reduceAdd, Nat.zero_add, List.set_cons_zero, List.set_cons_succ, Bool.not_true, Bool.not_false, if_true, if_false, Bool.false_eq_true, eq_int, ne_int, eq_bl, ne_bl, le_int, lt_int, ge_int, gt_int, sub_int, add_int, neg_int, abs_int]
  · simp [wipeE, oSome, oNone, eSl, vSl, runF, env0, sSeq, sIf, sRet, sVal, sDrop, sPars, sUnp, sNext, sRetN, sRaise, mVal, mOwn, mNil, setE, eVar, eVarB, eK, eB1, eB2, eTup, eLst, aNil, aCons, bd_ok, bd_exn, sb_ok, sb_exn, tV, tAnd, tOr, tNot, eAnd, eOr, eNot, eIf, eChain, callS, List.map_cons, List.map_nil, List.length_cons, List.length_nil, List.length_map, List.replicate, List.cons_append, List.nil_append, List.getElem?_cons_zero, List.getElem?_cons_succ, List.getElem?_nil, Nat.reduceSub, Nat.reduceAdd, Nat.zero_add, List.set_cons_zero, List.set_cons_succ, Bool.not_true, Bool.not_false, if_true, if_false, Bool.false_eq_true, eq_int, ne_int, eq_bl, ne_bl, le_int, lt_int, ge_int, gt_int, sub_int, add_int, neg_int, abs_int]
theorem sp_C__law_is_key_3 {ns : List Int} (hl : ns.length ≤ 1000) (c : Cv) : C__law_is_key_3 [.val (mkV p h s), .val (IT ns), .un, .un, .un] c = .ok (.lst ((nbs ns).filterMap fun q => if decide (s < absI (q.1 - q.2)) then some (.int 1) else none)) c := by
  refine eLc_pure (α := Int × Int) (fun q => .tup [.int q.1, .int q.2]) (fun q => if decide (s < absI (q.1 - q.2)) then some (.int 1) else none) (nbs ns) ?_ (l24_of (by simp [nbs]; omega)) (by simp [ownFree]) fun q hq => lcS_if (t2 _ _) ?_ fun _ => ?_
  · have := cut_from (ns.map Va.int) 1
    simp only [Int.natCast_one] at this
    simp [iZip, zip_tup, this, zip_nbs, -List.map_drop, -List.drop_one, oSome, oNone, eSl, vSl, runF, env0, sSeq, sIf, sRet, sVal, sDrop, sPars, sUnp, sNext, sRetN, sRaise, mVal, mOwn, mNil, setE, eVar, eVarB, eK, eB1, eB2, eTup, eLst, aNil, aCons, bd_ok, bd_exn, sb_ok, sb_exn, tV, tAnd, tOr, tNot, eAnd, eOr, eNot, eIf, eChain, callS, List.map_cons, List.map_nil, List.length_cons, List.length_nil, List.length_map, List.replicate, List.cons_append, List.nil_append, List.getElem?_cons_zero, List.getElem?_cons_succ, List.getElem?_nil, Nat.reduceSub, Nat.reduceAdd, Nat.zero_add, List.set_cons_zero, List.set_cons_succ, Bool.not_true, Bool.not_false, if_true, if_false, Bool.false_eq_true, eq_int, ne_int, eq_bl, ne_bl, le_int, lt_int, ge_int, gt_int, sub_int, add_int, neg_int, abs_int]
  · simp [wipeE, ix2, absI, oSome, oNone, eSl, vSl, runF, env0, sSeq, sIf, sRet, sVal, sDrop, sPars, sUnp, sNext, sRetN, sRaise, mVal, mOwn, mNil, setE, eVar, eVarB, eK, eB1, eB2, eTup, eLst, aNil, aCons, bd_ok, bd_exn, sb_ok, sb_exn, tV, tAnd, tOr, tNot, eAnd, eOr, eNot, eIf, eChain, callS, List.map_cons, List.map_nil, List.length_cons, List.length_nil, List.length_map, List.replicate, List.cons_append, List.nil_append, List.getElem?_cons_zero, List.getElem?_cons_succ, List.getElem?_nil, Nat.reduceSub, Nat.reduceAdd, Nat.zero_add, List.set_cons_zero, List.set_cons_succ, Bool.not_true, Bool.not_false, if_true, if_false, Bool.false_eq_true, eq_int, ne_int, eq_bl, ne_bl, le_int, lt_int, ge_int, gt_int, sub_int, add_int, neg_int, abs_int]
    try first | rfl | congr
  · simp [wipeE, oSome, oNone, eSl, vSl, runF, env0, sSeq, sIf, sRet, sVal, sDrop, sPars, sUnp, sNext, sRetN, sRaise, mVal, mOwn, mNil, setE, eVar, eVarB, eK, eB1, eB2, eTup, eLst, aNil, aCons, bd_ok, bd_exn, sb_ok, sb_exn, tV, tAnd, tOr, tNot, eAnd, eOr, eNot, eIf, eChain, callS, List.map_cons, List.map_nil, List.length_cons, List.length_nil, List.length_map, List.replicate, List.cons_append, List.nil_append, List.getElem?_cons_zero, List.getElem?_cons_succ, List.getElem?_nil, Nat.reduceSub, Nat.reduceAdd, Nat.zero_add, List.set_cons_zero, List.set_cons_succ, Bool.not_true, Bool.not_false, if_true, if_false, Bool.false_eq_true, eq_int, ne_int, eq_bl, ne_bl, le_int, lt_int, ge_int, gt_int, sub_int, add_int, neg_int, abs_int]
theorem isI_ints {ds : List Va} (h : ds.all isI = true) : ∃ ns : List Int, ds = ns.map .int := intsOf_some fun d hd => by
  have := List.all_eq_true.mp h d hd
  cases d <;> first | exact ⟨_, rfl⟩ | (simp [isI] at this)
theorem sp__law_is_key (g : GM p h s) {v : Va} (hv : wf 31 v = true) (c : Cv) : F__law_is_key [mkV p h s, v] c = .ok (.bl (fitsK p h s v)) c := by
  cases v with
  | tup ds =>
    have hw : wfs 30 ds = true := by simpa [wf] using hv
    by_cases hl : (ds.length : Int) = p
    · have hl2 : ds.length ≤ 1000 := by have := g.p8; omega
      have e1 := sp_C__law_is_key_1 hw hl2 (mkV p h s) c
      have n1 := ne_nil (ds.filterMap fun d => if !isI d then some d else none) (wfs_fm fun d hd => wf_up 30 59 d (by omega) (wfs_mem hw d hd)) c
      rw [fm_empty (fun d => !isI d) (fun d => d) ds] at n1
      generalize (ds.filterMap fun d => if !isI d then some d else none) = L1 at e1 n1
      cases hi : ds.all isI with
      | false =>
        have hc : fitsC p h (.tup ds) = false := by
          unfold fitsC
          rw [Bool.and_eq_false_iff]
          right
          rw [Bool.eq_false_iff] at hi ⊢
          intro z
          apply hi
          rw [List.all_eq_true] at z ⊢
          intro d hd
          have := z d hd
          cases d <;> first | rfl | (simp [inI] at this)
        have m1 : vNe (.lst L1) (.lst []) c = .ok (.bl true) c := by rw [n1]; simp [hi]
        simp [F__law_is_key, B__law_is_key, vIsi, vtOf, isT, vLen, hl, ix0, e1, m1, fitsK, hc, L24, -List.length_map, oSome, oNone, eSl, vSl, runF, env0, sSeq, sIf, sRet, sVal, sDrop, sPars, sUnp, sNext, sRetN, sRaise, mVal, mOwn, mNil, setE, eVar, eVarB, eK, eB1, eB2, eTup, eLst, aNil, aCons, bd_ok, bd_exn, sb_ok, sb_exn, tV, tAnd, tOr, tNot, eAnd, eOr, eNot, eIf, eChain, callS, List.map_cons, List.map_nil, List.length_cons, List.length_nil, List.length_map, List.replicate, List.cons_append, List.nil_append, List.getElem?_cons_zero, List.getElem?_cons_succ, List.getElem?_nil, Nat.reduceSub, Nat.reduceAdd, Nat.zero_add, List.set_cons_zero, List.set_cons_succ, Bool.not_true, Bool.not_false, if_true, if_false, Bool.false_eq_true, eq_int, ne_int, eq_bl, ne_bl, le_int, lt_int, ge_int, gt_int, sub_int, add_int, neg_int, abs_int]
      | true =>
        have m1 : vNe (.lst L1) (.lst []) c = .ok (.bl false) c := by rw [n1]; simp [hi]
        obtain ⟨ns, e⟩ := isI_ints hi
        subst e
        have hl3 : ns.length ≤ 1000 := by simpa using hl2
        have e2 := sp_C__law_is_key_2 (p := p) (h := h) (s := s) hl3 c
        have n2 := ne_nil (ns.filterMap fun n => if !(decide (0 ≤ n) && decide (n < h)) then some (Va.int n) else none) (wfs_fm fun d hd => by simp [wf]) c
        rw [fm_empty (fun n : Int => !(decide (0 ≤ n) && decide (n < h))) Va.int ns] at n2
        generalize (ns.filterMap fun n => if !(decide (0 ≤ n) && decide (n < h)) then some (Va.int n) else none) = L2 at e2 n2
        have e3 := sp_C__law_is_key_3 (p := p) (h := h) (s := s) hl3 c
        have n3 := eq_nil ((nbs ns).filterMap fun q => if decide (s < absI (q.1 - q.2)) then some (Va.int 1) else none) (wfs_fm fun d hd => by simp [wf]) c
        rw [fm_empty (fun q : Int × Int => decide (s < absI (q.1 - q.2))) (fun _ => Va.int 1) (nbs ns)] at n3
        generalize ((nbs ns).filterMap fun q => if decide (s < absI (q.1 - q.2)) then some (Va.int 1) else none) = L3 at e3 n3
        have ea : ((nbs ns).all fun q => !decide (s < absI (q.1 - q.2))) = adj s ns := by
          unfold adj
          congr 1
          funext q
          by_cases hq : absI (q.1 - q.2) ≤ s
          · have : ¬ s < absI (q.1 - q.2) := by omega
            simp [hq, this]
          · have : s < absI (q.1 - q.2) := by omega
            simp [hq, this]
        rw [ea] at n3
        have eb : (ns.all fun n => !!(decide (0 ≤ n) && decide (n < h))) = ((ns.map Va.int).all (inI 0 (h - 1))) := by
          rw [List.all_map]
          congr 1
          funext n
          show (!!(decide (0 ≤ n) && decide (n < h))) = inI 0 (h - 1) (.int n)
          unfold inI
          by_cases h1 : n < h
          · have : n ≤ h - 1 := by omega
            simp [h1, this]
          · have : ¬ n ≤ h - 1 := by omega
            simp [h1, this]
        rw [eb] at n2
        have hlm : (ns.length : Int) = p := by simpa using hl
        cases hb : ((ns.map Va.int).all (inI 0 (h - 1))) with
        | false =>
          have m2 : vNe (.lst L2) (.lst []) c = .ok (.bl true) c := by rw [n2, hb]; rfl
          have hc : fitsC p h (.tup (ns.map Va.int)) = false := by
            show (decide _ && _) = false
            rw [hb, Bool.and_false]
          simp [F__law_is_key, B__law_is_key, vIsi, vtOf, isT, vLen, hlm, ix0, e1, m1, e2, m2, fitsK, hc, L24, oSome, oNone, eSl, vSl, runF, env0, sSeq, sIf, sRet, sVal, sDrop, sPars, sUnp, sNext, sRetN, sRaise, mVal, mOwn, mNil, setE, eVar, eVarB, eK, eB1, eB2, eTup, eLst, aNil, aCons, bd_ok, bd_exn, sb_ok, sb_exn, tV, tAnd, tOr, tNot, eAnd, eOr, eNot, eIf, eChain, callS, List.map_cons, List.map_nil, List.length_cons, List.length_nil, List.length_map, List.replicate, List.cons_append, List.nil_append, List.getElem?_cons_zero, List.getElem?_cons_succ, List.getElem?_nil, Nat.reduceSub, Nat.reduceAdd, Nat.zero_add, List.set_cons_zero, List.set_cons_succ, Bool.not_true, Bool.not_false, if_true, if_false, Bool.false_eq_true, eq_int, ne_int, eq_bl, ne_bl, le_int, lt_int, ge_int, gt_int, sub_int, add_int, neg_int, abs_int]
        | true =>
          have m2 : vNe (.lst L2) (.lst []) c = .ok (.bl false) c := by rw [n2, hb]; rfl
          have hc : fitsC p h (.tup (ns.map Va.int)) = true := by
            show (decide _ && _) = true
            rw [hb, Bool.and_true]; simp [hlm]
          simp [F__law_is_key, B__law_is_key, vIsi, vtOf, isT, vLen, hlm, ix0, e1, m1, e2, m2, e3, n3, fitsK, hc, ofInts_map, L24, oSome, oNone, eSl, vSl, runF, env0, sSeq, sIf, sRet, sVal, sDrop, sPars, sUnp, sNext, sRetN, sRaise, mVal, mOwn, mNil, setE, eVar, eVarB, eK, eB1, eB2, eTup, eLst, aNil, aCons, bd_ok, bd_exn, sb_ok, sb_exn, tV, tAnd, tOr, tNot, eAnd, eOr, eNot, eIf, eChain, callS, List.map_cons, List.map_nil, List.length_cons, List.length_nil, List.length_map, List.replicate, List.cons_append, List.nil_append, List.getElem?_cons_zero, List.getElem?_cons_succ, List.getElem?_nil, Nat.reduceSub, Nat.reduceAdd, Nat.zero_add, List.set_cons_zero, List.set_cons_succ, Bool.not_true, Bool.not_false, if_true, if_false, Bool.false_eq_true, eq_int, ne_int, eq_bl, ne_bl, le_int, lt_int, ge_int, gt_int, sub_int, add_int, neg_int, abs_int]
    · have hc : fitsC p h (.tup ds) = false := by simp [fitsC, hl]
      simp [F__law_is_key, B__law_is_key, vIsi, vtOf, isT, vLen, hl, ix0, fitsK, hc, oSome, oNone, eSl, vSl, runF, env0, sSeq, sIf, sRet, sVal, sDrop, sPars, sUnp, sNext, sRetN, sRaise, mVal, mOwn, mNil, setE, eVar, eVarB, eK, eB1, eB2, eTup, eLst, aNil, aCons, bd_ok, bd_exn, sb_ok, sb_exn, tV, tAnd, tOr, tNot, eAnd, eOr, eNot, eIf, eChain, callS, List.map_cons, List.map_nil, List.length_cons, List.length_nil, List.length_map, List.replicate, List.cons_append, List.nil_append, List.getElem?_cons_zero, List.getElem?_cons_succ, List.getElem?_nil, Nat.reduceSub, Nat.reduceAdd, Nat.zero_add, List.set_cons_zero, List.set_cons_succ, Bool.not_true, Bool.not_false, if_true, if_false, Bool.false_eq_true, eq_int, ne_int, eq_bl, ne_bl, le_int, lt_int, ge_int, gt_int, sub_int, add_int, neg_int, abs_int]
  | _ => first | (simp [wf] at hv; done) | simp [F__law_is_key, B__law_is_key, vIsi, vtOf, isT, fitsK, fitsC, oSome, oNone, eSl, vSl, runF, env0, sSeq, sIf, sRet, sVal, sDrop, sPars, sUnp, sNext, sRetN, sRaise, mVal, mOwn, mNil, setE, eVar, eVarB, eK, eB1, eB2, eTup, eLst, aNil, aCons, bd_ok, bd_exn, sb_ok, sb_exn, tV, tAnd, tOr, tNot, eAnd, eOr, eNot, eIf, eChain, callS, List.map_cons, List.map_nil, List.length_cons, List.length_nil, List.length_map, List.replicate, List.cons_append, List.nil_append, List.getElem?_cons_zero, List.getElem?_cons_succ, List.getElem?_nil, Nat.reduceSub, Nat.reduceAdd, Nat.zero_add, List.set_cons_zero, List.set_cons_succ, Bool.not_true, Bool.not_false, if_true, if_false, Bool.false_eq_true, eq_int, ne_int, eq_bl, ne_bl, le_int, lt_int, ge_int, gt_int, sub_int, add_int, neg_int, abs_int]
/-! ### rows of keys -/
def keyOf : Va → List Int
  | .tup es => ofInts es
  | _ => []
def rowR (k o : List Int) (f : Int) (rows : List (List Int)) : Bool := (decide (rows.head? = some k) && decide (rows.getLast? = some o)) && (nbs rows).all fun q => decide (far q.1 q.2 ≤ f)
def rowOk (p h s : Int) (k o : List Int) (f : Int) : Va → Bool
  | .tup ds => (decide (1 ≤ (ds.length : Int)) && decide ((ds.length : Int) ≤ 101)) && (ds.all (fitsK p h s) && rowR k o f (ds.map keyOf))
  | _ => false
theorem rows_of {p h s : Int} {ds : List Va} (hk : ds.all (fitsK p h s) = true) : ∃ rows : List (List Int), ds = rows.map IT ∧ ∀ r ∈ rows, Ky p h s r := by
  induction ds with
  | nil => exact ⟨[], rfl, by simp⟩
  | cons d r ih =>
    simp only [List.all_cons, Bool.and_eq_true] at hk
    obtain ⟨ns, e, ky⟩ := fits_Ky hk.1
    obtain ⟨rows, e2, hr⟩ := ih hk.2
    refine ⟨ns :: rows, by rw [e, e2]; rfl, fun x hx => ?_⟩
    rcases List.mem_cons.mp hx with z | z
    · rw [z]; exact ky
    · exact hr x z
theorem keyOf_IT (rows : List (List Int)) : (rows.map IT).map keyOf = rows := by
  induction rows with
  | nil => rfl
  | cons a r ih => simp only [List.map_cons, ih]; show ofInts (a.map .int) :: r = _; rw [ofInts_map]
theorem sp_C_fits_row_1 (g : GM p h s) {ds : List Va} (hp : pls ds = true) (hl : ds.length ≤ 1000) (a b d : Va) (c : Cv) : C_fits_row_1 [.val (mkV p h s), .val a, .val b, .val d, .val (.tup ds), .un, .un] c = .ok (.lst (ds.map fun d => .bl (fitsK p h s d))) c := by
  refine eLc_map (α := Va) id (fun d => .bl (fitsK p h s d)) ds ?_ (l24_of hl) (by simp [ownFree]) fun d hd => lcS_yes rfl ?_
  · simp [iVal, vIt, oSome, oNone, eSl, vSl, runF, env0, sSeq, sIf, sRet, sVal, sDrop, sPars, sUnp, sNext, sRetN, sRaise, mVal, mOwn, mNil, setE, eVar, eVarB, eK, eB1, eB2, eTup, eLst, aNil, aCons, bd_ok, bd_exn, sb_ok, sb_exn, tV, tAnd, tOr, tNot, eAnd, eOr, eNot, eIf, eChain, callS, List.map_cons, List.map_nil, List.length_cons, List.length_nil, List.length_map, List.replicate, List.cons_append, List.nil_append, List.getElem?_cons_zero, List.getElem?_cons_succ, List.getElem?_nil, Nat.reduceSub, Nat.reduceAdd, Nat.zero_add, List.set_cons_zero, List.set_cons_succ, Bool.not_true, Bool.not_false, if_true, if_false, Bool.false_eq_true, eq_int, ne_int, eq_bl, ne_bl, le_int, lt_int, ge_int, gt_int, sub_int, add_int, neg_int, abs_int]
  · simp [wipeE, sp_fits_key g (pls_mem hp d hd), oSome, oNone, eSl, vSl, runF, env0, sSeq, sIf, sRet, sVal, sDrop, sPars, sUnp, sNext, sRetN, sRaise, mVal, mOwn, mNil, setE, eVar, eVarB, eK, eB1, eB2, eTup, eLst, aNil, aCons, bd_ok, bd_exn, sb_ok, sb_exn, tV, tAnd, tOr, tNot, eAnd, eOr, eNot, eIf, eChain, callS, List.map_cons, List.map_nil, List.length_cons, List.length_nil, List.length_map, List.replicate, List.cons_append, List.nil_append, List.getElem?_cons_zero, List.getElem?_cons_succ, List.getElem?_nil, Nat.reduceSub, Nat.reduceAdd, Nat.zero_add, List.set_cons_zero, List.set_cons_succ, Bool.not_true, Bool.not_false, if_true, if_false, Bool.false_eq_true, eq_int, ne_int, eq_bl, ne_bl, le_int, lt_int, ge_int, gt_int, sub_int, add_int, neg_int, abs_int]
theorem nbs_mem {α : Type} {xs : List α} {q : α × α} (h : q ∈ nbs xs) : q.1 ∈ xs ∧ q.2 ∈ xs := ⟨(List.of_mem_zip h).1, List.mem_of_mem_drop (List.of_mem_zip h).2⟩
theorem cut_rows (rows : List (List Int)) : cutA (rows.map IT) (some 1) none = (rows.map IT).drop 1 := by
  have := cut_from (rows.map IT) 1
  simpa only [Int.natCast_one] using this
theorem sp_C_fits_row_2 (g : GM p h s) {rows : List (List Int)} (hr : ∀ r ∈ rows, Ky p h s r) (hl : rows.length ≤ 1000) (m a b : Va) (c : Cv) : C_fits_row_2 [.val m, .val a, .val b, .val (.int f), .val (.tup (rows.map IT)), .un, .un] c = .ok (.lst ((nbs rows).map fun q => .bl (decide (far q.1 q.2 ≤ f)))) c := by
  refine eLc_map (α := List Int × List Int) (fun q => .tup [IT q.1, IT q.2]) (fun q => .bl (decide (far q.1 q.2 ≤ f))) (nbs rows) ?_ (l24_of (by simp [nbs]; omega)) (by simp [ownFree]) fun q hq => lcS_yes (t2 _ _) ?_
  · have z := zip_nbs IT rows
    simp [iZip, zip_tup, cut_rows, z, -List.map_drop, -List.drop_one, -List.map_map, -List.map_cons, oSome, oNone, eSl, vSl, runF, env0, sSeq, sIf, sRet, sVal, sDrop, sPars, sUnp, sNext, sRetN, sRaise, mVal, mOwn, mNil, setE, eVar, eVarB, eK, eB1, eB2, eTup, eLst, aNil, aCons, bd_ok, bd_exn, sb_ok, sb_exn, tV, tAnd, tOr, tNot, eAnd, eOr, eNot, eIf, eChain, callS, List.map_cons, List.map_nil, List.length_cons, List.length_nil, List.length_map, List.replicate, List.cons_append, List.nil_append, List.getElem?_cons_zero, List.getElem?_cons_succ, List.getElem?_nil, Nat.reduceSub, Nat.reduceAdd, Nat.zero_add, List.set_cons_zero, List.set_cons_succ, Bool.not_true, Bool.not_false, if_true, if_false, Bool.false_eq_true, eq_int, ne_int, eq_bl, ne_bl, le_int, lt_int, ge_int, gt_int, sub_int, add_int, neg_int, abs_int]
  · have h1 := hr q.1 (nbs_mem hq).1
    have h2 := hr q.2 (nbs_mem hq).2
    simp [wipeE, sp_widest (h1.l g) (h1.zne h2 g), oSome, oNone, eSl, vSl, runF, env0, sSeq, sIf, sRet, sVal, sDrop, sPars, sUnp, sNext, sRetN, sRaise, mVal, mOwn, mNil, setE, eVar, eVarB, eK, eB1, eB2, eTup, eLst, aNil, aCons, bd_ok, bd_exn, sb_ok, sb_exn, tV, tAnd, tOr, tNot, eAnd, eOr, eNot, eIf, eChain, callS, List.map_cons, List.map_nil, List.length_cons, List.length_nil, List.length_map, List.replicate, List.cons_append, List.nil_append, List.getElem?_cons_zero, List.getElem?_cons_succ, List.getElem?_nil, Nat.reduceSub, Nat.reduceAdd, Nat.zero_add, List.set_cons_zero, List.set_cons_succ, Bool.not_true, Bool.not_false, if_true, if_false, Bool.false_eq_true, eq_int, ne_int, eq_bl, ne_bl, le_int, lt_int, ge_int, gt_int, sub_int, add_int, neg_int, abs_int]
theorem sp_C__law_is_row_2 (g : GM p h s) {rows : List (List Int)} (hr : ∀ r ∈ rows, Ky p h s r) (hl : rows.length ≤ 1000) (m a b : Va) (c : Cv) : C__law_is_row_2 [.val m, .val a, .val b, .val (.int f), .val (.tup (rows.map IT)), .un, .un, .un] c = .ok (.lst ((nbs rows).filterMap fun q => if decide (f < far q.1 q.2) then some (.int 1) else none)) c := by
  refine eLc_pure (α := List Int × List Int) (fun q => .tup [IT q.1, IT q.2]) (fun q => if decide (f < far q.1 q.2) then some (.int 1) else none) (nbs rows) ?_ (l24_of (by simp [nbs]; omega)) (by simp [ownFree]) fun q hq => lcS_if (t2 _ _) ?_ fun _ => ?_
  · have z := zip_nbs IT rows
    simp [iZip, zip_tup, cut_rows, z, -List.map_drop, -List.drop_one, -List.map_map, -List.map_cons, oSome, oNone, eSl, vSl, runF, env0, sSeq, sIf, sRet, sVal, sDrop, sPars, sUnp, sNext, sRetN, sRaise, mVal, mOwn, mNil, setE, eVar, eVarB, eK, eB1, eB2, eTup, eLst, aNil, aCons, bd_ok, bd_exn, sb_ok, sb_exn, tV, tAnd, tOr, tNot, eAnd, eOr, eNot, eIf, eChain, callS, List.map_cons, List.map_nil, List.length_cons, List.length_nil, List.length_map, List.replicate, List.cons_append, List.nil_append, List.getElem?_cons_zero, List.getElem?_cons_succ, List.getElem?_nil, Nat.reduceSub, Nat.reduceAdd, Nat.zero_add, List.set_cons_zero, List.set_cons_succ, Bool.not_true, Bool.not_false, if_true, if_false, Bool.false_eq_true, eq_int, ne_int, eq_bl, ne_bl, le_int, lt_int, ge_int, gt_int, sub_int, add_int, neg_int, abs_int]
  · have h1 := hr q.1 (nbs_mem hq).1
    have h2 := hr q.2 (nbs_mem hq).2
    simp [wipeE, sp__law_far (h1.l g) (h1.zne h2 g), oSome, oNone, eSl, vSl, runF, env0, sSeq, sIf, sRet, sVal, sDrop, sPars, sUnp, sNext, sRetN, sRaise, mVal, mOwn, mNil, setE, eVar, eVarB, eK, eB1, eB2, eTup, eLst, aNil, aCons, bd_ok, bd_exn, sb_ok, sb_exn, tV, tAnd, tOr, tNot, eAnd, eOr, eNot, eIf, eChain, callS, List.map_cons, List.map_nil, List.length_cons, List.length_nil, List.length_map, List.replicate, List.cons_append, List.nil_append, List.getElem?_cons_zero, List.getElem?_cons_succ, List.getElem?_nil, Nat.reduceSub, Nat.reduceAdd, Nat.zero_add, List.set_cons_zero, List.set_cons_succ, Bool.not_true, Bool.not_false, if_true, if_false, Bool.false_eq_true, eq_int, ne_int, eq_bl, ne_bl, le_int, lt_int, ge_int, gt_int, sub_int, add_int, neg_int, abs_int]
  · simp [wipeE, oSome, oNone, eSl, vSl, runF, env0, sSeq, sIf, sRet, sVal, sDrop, sPars, sUnp, sNext, sRetN, sRaise, mVal, mOwn, mNil, setE, eVar, eVarB, eK, eB1, eB2, eTup, eLst, aNil, aCons, bd_ok, bd_exn, sb_ok, sb_exn, tV, tAnd, tOr, tNot, eAnd, eOr, eNot, eIf, eChain, callS, List.map_cons, List.map_nil, List.length_cons, List.length_nil, List.length_map, List.replicate, List.cons_append, List.nil_append, List.getElem?_cons_zero, List.getElem?_cons_succ, List.getElem?_nil, Nat.reduceSub, Nat.reduceAdd, Nat.zero_add, List.set_cons_zero, List.set_cons_succ, Bool.not_true, Bool.not_false, if_true, if_false, Bool.false_eq_true, eq_int, ne_int, eq_bl, ne_bl, le_int, lt_int, ge_int, gt_int, sub_int, add_int, neg_int, abs_int]
theorem sp_C__law_is_row_1 (g : GM p h s) {ds : List Va} (hw : wfs 31 ds = true) (hl : ds.length ≤ 1000) (a b d : Va) (c : Cv) : C__law_is_row_1 [.val (mkV p h s), .val a, .val b, .val d, .val (.tup ds), .un, .un, .un] c = .ok (.lst (ds.filterMap fun d => if !fitsK p h s d then some d else none)) c := by
  refine eLc_pure (α := Va) id (fun d => if !fitsK p h s d then some d else none) ds ?_ (l24_of hl) (by simp [ownFree]) fun d hd => lcS_if rfl ?_ fun _ => ?_
  · simp [iVal, vIt, oSome, oNone, eSl, vSl, runF, env0, sSeq, sIf, sRet, sVal, sDrop, sPars, sUnp, sNext, sRetN, sRaise, mVal, mOwn, mNil, setE, eVar, eVarB, eK, eB1, eB2, eTup, eLst, aNil, aCons, bd_ok, bd_exn, sb_ok, sb_exn, tV, tAnd, tOr, tNot, eAnd, eOr, eNot, eIf, eChain, callS, List.map_cons, List.map_nil, List.length_cons, List.length_nil, List.length_map, List.replicate, List.cons_append, List.nil_append, List.getElem?_cons_zero, List.getElem?_cons_succ, List.getElem?_nil, Nat.reduceSub, Nat.reduceAdd, Nat.zero_add, List.set_cons_zero, List.set_cons_succ, Bool.not_true, Bool.not_false, if_true, if_false, Bool.false_eq_true, eq_int, ne_int, eq_bl, ne_bl, le_int, lt_int, ge_int, gt_int, sub_int, add_int, neg_int, abs_int]
  · simp [wipeE, sp__law_is_key g (wfs_mem hw d hd), oSome, oNone, eSl, vSl, runF, env0, sSeq, sIf, sRet, sVal, sDrop, sPars, sUnp, sNext, sRetN, sRaise, mVal, mOwn, mNil, setE, eVar, eVarB, eK, eB1, eB2, eTup, eLst, aNil, aCons, bd_ok, bd_exn, sb_ok, sb_exn, tV, tAnd, tOr, tNot, eAnd, eOr, eNot, eIf, eChain, callS, List.map_cons, List.map_nil, List.length_cons, List.length_nil, List.length_map, List.replicate, List.cons_append, List.nil_append, List.getElem?_cons_zero, List.getElem?_cons_succ, List.getElem?_nil, Nat.reduceSub, Nat.reduceAdd, Nat.zero_add, List.set_cons_zero, List.set_cons_succ, Bool.not_true, Bool.not_false, if_true, if_false, Bool.false_eq_true, eq_int, ne_int, eq_bl, ne_bl, le_int, lt_int, ge_int, gt_int, sub_int, add_int, neg_int, abs_int]
  · simp [wipeE, oSome, oNone, eSl, vSl, runF, env0, sSeq, sIf, sRet, sVal, sDrop, sPars, sUnp, sNext, sRetN, sRaise, mVal, mOwn, mNil, setE, eVar, eVarB, eK, eB1, eB2, eTup, eLst, aNil, aCons, bd_ok, bd_exn, sb_ok, sb_exn, tV, tAnd, tOr, tNot, eAnd, eOr, eNot, eIf, eChain, callS, List.map_cons, List.map_nil, List.length_cons, List.length_nil, List.length_map, List.replicate, List.cons_append, List.nil_append, List.getElem?_cons_zero, List.getElem?_cons_succ, List.getElem?_nil, Nat.reduceSub, Nat.reduceAdd, Nat.zero_add, List.set_cons_zero, List.set_cons_succ, Bool.not_true, Bool.not_false, if_true, if_false, Bool.false_eq_true, eq_int, ne_int, eq_bl, ne_bl, le_int, lt_int, ge_int, gt_int, sub_int, add_int, neg_int, abs_int]
theorem ix_first (x : Va) (xs : List Va) (c : Cv) : vIx (.tup (x :: xs)) (.int 0) c = .ok x c := by
  have := at_get (xs := x :: xs) (i := 0) (x := x) rfl
  simp only [vIx]
  rw [show (0 : Int) = ((0 : Nat) : Int) from rfl, this]
theorem ix_end (xs : List Va) (y : Va) (h : xs.getLast? = some y) (c : Cv) : vIx (.tup xs) (.int (-1)) c = .ok y c := by
  simp only [vIx]
  rw [at_last h]
theorem sp_fits_row (g : GM p h s) {k o : List Int} {v : Va} (hv : pl v = true) (c : Cv) : F_fits_row [mkV p h s, IT k, IT o, .int f, v] c = .ok (.bl (rowOk p h s k o f v)) c := by
  cases v with
  | tup ds =>
    have hp : pls ds = true := by simpa [pl] using hv
    by_cases h1 : 1 ≤ (ds.length : Int)
    · by_cases h2 : (ds.length : Int) ≤ 101
      · have hl : ds.length ≤ 1000 := by omega
        have e1 := sp_C_fits_row_1 g hp hl (IT k) (IT o) (.int f) c
        have ht : tupL 1 101 (.tup ds) = true := by simp [tupL, h1, h2]
        cases hk : ds.all (fitsK p h s) with
        | false =>
          have hn : ¬ ∀ x ∈ ds, fitsK p h s x = true := by rw [← List.all_eq_true, hk]; simp
          simp [F_fits_row, B_fits_row, sp_is_tuple_of hv, ht, e1, vAll_mapf, rowOk, hk, h1, h2, oSome, oNone, eSl, vSl, runF, env0, sSeq, sIf, sRet, sVal, sDrop, sPars, sUnp, sNext, sRetN, sRaise, mVal, mOwn, mNil, setE, eVar, eVarB, eK, eB1, eB2, eTup, eLst, aNil, aCons, bd_ok, bd_exn, sb_ok, sb_exn, tV, tAnd, tOr, tNot, eAnd, eOr, eNot, eIf, eChain, callS, List.map_cons, List.map_nil, List.length_cons, List.length_nil, List.length_map, List.replicate, List.cons_append, List.nil_append, List.getElem?_cons_zero, List.getElem?_cons_succ, List.getElem?_nil, Nat.reduceSub, Nat.reduceAdd, Nat.zero_add, List.set_cons_zero, List.set_cons_succ, Bool.not_true, Bool.not_false, if_true, if_false, Bool.false_eq_true, eq_int, ne_int, eq_bl, ne_bl, le_int, lt_int, ge_int, gt_int, sub_int, add_int, neg_int, abs_int]
        | true =>
          obtain ⟨rows, e, hr⟩ := rows_of hk
          subst e
          cases rows with
          | nil => simp at h1
          | cons r0 rs =>
            have e2 := sp_C_fits_row_2 (f := f) g hr (by simpa using hl) (mkV p h s) (IT k) (IT o) c
            have hz : ∃ z, (r0 :: rs).getLast? = some z := ⟨_, List.getLast?_eq_some_getLast (by simp)⟩
            obtain ⟨z, hz⟩ := hz
            have hz2 : ((r0 :: rs).map IT).getLast? = some (IT z) := by rw [List.getLast?_map, hz]; rfl
            have i2 := ix_end _ _ hz2 c
            have n1 := ne_IT r0 k c
            have n2 := ne_IT z o c
            have ek : rowOk p h s k o f (.tup ((r0 :: rs).map IT)) = ((decide (r0 = k) && decide (z = o)) && (nbs (r0 :: rs)).all fun q => decide (far q.1 q.2 ≤ f)) := by
              show ((decide _ && decide _) && (_ && _)) = _
              rw [hk, keyOf_IT]
              unfold rowR
              rw [hz, decide_eq_true h1, decide_eq_true h2]
              simp only [Bool.true_and, List.head?_cons, Option.some.injEq]
            rw [ek]
            have i1 : vIx (.tup ((r0 :: rs).map IT)) (.int 0) c = .ok (IT r0) c := ix_first _ _ c
            generalize (r0 :: rs).map IT = L at *
            have a1 : vAll (.lst (L.map fun d => Va.bl (fitsK p h s d))) c = .ok (.bl true) c := by rw [vAll_mapf, hk]
            have a2 : vAll (.lst ((nbs (r0 :: rs)).map fun q => Va.bl (decide (far q.1 q.2 ≤ f)))) c = .ok (.bl ((nbs (r0 :: rs)).all fun q => decide (far q.1 q.2 ≤ f))) c := vAll_mapf _ _ c
            by_cases q1 : r0 = k
            · by_cases q2 : z = o
              · simp [F_fits_row, B_fits_row, sp_is_tuple_of hv, ht, e1, a1, e2, vAll_mapf, i1, i2, ne_IT, q1, q2, oSome, oNone, eSl, vSl, runF, env0, sSeq, sIf, sRet, sVal, sDrop, sPars, sUnp, sNext, sRetN, sRaise, mVal, mOwn, mNil, setE, eVar, eVarB, eK, eB1, eB2, eTup, eLst, aNil, aCons, bd_ok, bd_exn, sb_ok, sb_exn, tV, tAnd, tOr, tNot, eAnd, eOr, eNot, eIf, eChain, callS, List.map_cons, List.map_nil, List.length_cons, List.length_nil, List.length_map, List.replicate, List.cons_append, List.nil_append, List.getElem?_cons_zero, List.getElem?_cons_succ, List.getElem?_nil, Nat.reduceSub, Nat.reduceAdd, Nat.zero_add, List.set_cons_zero, List.set_cons_succ, Bool.not_true, Bool.not_false, if_true, if_false, Bool.false_eq_true, eq_int, ne_int, eq_bl, ne_bl, le_int, lt_int, ge_int, gt_int, sub_int, add_int, neg_int, abs_int]
              · simp [F_fits_row, B_fits_row, sp_is_tuple_of hv, ht, e1, a1, i1, i2, ne_IT, q1, q2, oSome, oNone, eSl, vSl, runF, env0, sSeq, sIf, sRet, sVal, sDrop, sPars, sUnp, sNext, sRetN, sRaise, mVal, mOwn, mNil, setE, eVar, eVarB, eK, eB1, eB2, eTup, eLst, aNil, aCons, bd_ok, bd_exn, sb_ok, sb_exn, tV, tAnd, tOr, tNot, eAnd, eOr, eNot, eIf, eChain, callS, List.map_cons, List.map_nil, List.length_cons, List.length_nil, List.length_map, List.replicate, List.cons_append, List.nil_append, List.getElem?_cons_zero, List.getElem?_cons_succ, List.getElem?_nil, Nat.reduceSub, Nat.reduceAdd, Nat.zero_add, List.set_cons_zero, List.set_cons_succ, Bool.not_true, Bool.not_false, if_true, if_false, Bool.false_eq_true, eq_int, ne_int, eq_bl, ne_bl, le_int, lt_int, ge_int, gt_int, sub_int, add_int, neg_int, abs_int]
            · simp [F_fits_row, B_fits_row, sp_is_tuple_of hv, ht, e1, a1, i1, ne_IT, q1, oSome, oNone, eSl, vSl, runF, env0, sSeq, sIf, sRet, sVal, sDrop, sPars, sUnp, sNext, sRetN, sRaise, mVal, mOwn, mNil, setE, eVar, eVarB, eK, eB1, eB2, eTup, eLst, aNil, aCons, bd_ok, bd_exn, sb_ok, sb_exn, tV, tAnd, tOr, tNot, eAnd, eOr, eNot, eIf, eChain, callS, List.map_cons, List.map_nil, List.length_cons, List.length_nil, List.length_map, List.replicate, List.cons_append, List.nil_append, List.getElem?_cons_zero, List.getElem?_cons_succ, List.getElem?_nil, Nat.reduceSub, Nat.reduceAdd, Nat.zero_add, List.set_cons_zero, List.set_cons_succ, Bool.not_true, Bool.not_false, if_true, if_false, Bool.false_eq_true, eq_int, ne_int, eq_bl, ne_bl, le_int, lt_int, ge_int, gt_int, sub_int, add_int, neg_int, abs_int]
      · have ht : tupL 1 101 (.tup ds) = false := by simp [tupL, h1, h2]
        simp [F_fits_row, B_fits_row, sp_is_tuple_of hv, ht, rowOk, h1, h2, oSome, oNone, eSl, vSl, runF, env0, sSeq, sIf, sRet, sVal, sDrop, sPars, sUnp, sNext, sRetN, sRaise, mVal, mOwn, mNil, setE, eVar, eVarB, eK, eB1, eB2, eTup, eLst, aNil, aCons, bd_ok, bd_exn, sb_ok, sb_exn, tV, tAnd, tOr, tNot, eAnd, eOr, eNot, eIf, eChain, callS, List.map_cons, List.map_nil, List.length_cons, List.length_nil, List.length_map, List.replicate, List.cons_append, List.nil_append, List.getElem?_cons_zero, List.getElem?_cons_succ, List.getElem?_nil, Nat.reduceSub, Nat.reduceAdd, Nat.zero_add, List.set_cons_zero, List.set_cons_succ, Bool.not_true, Bool.not_false, if_true, if_false, Bool.false_eq_true, eq_int, ne_int, eq_bl, ne_bl, le_int, lt_int, ge_int, gt_int, sub_int, add_int, neg_int, abs_int]
    · have ht : tupL 1 101 (.tup ds) = false := by simp [tupL, h1]
      simp [F_fits_row, B_fits_row, sp_is_tuple_of hv, ht, rowOk, h1, oSome, oNone, eSl, vSl, runF, env0, sSeq, sIf, sRet, sVal, sDrop, sPars, sUnp, sNext, sRetN, sRaise, mVal, mOwn, mNil, setE, eVar, eVarB, eK, eB1, eB2, eTup, eLst, aNil, aCons, bd_ok, bd_exn, sb_ok, sb_exn, tV, tAnd, tOr, tNot, eAnd, eOr, eNot, eIf, eChain, callS, List.map_cons, List.map_nil, List.length_cons, List.length_nil, List.length_map, List.replicate, List.cons_append, List.nil_append, List.getElem?_cons_zero, List.getElem?_cons_succ, List.getElem?_nil, Nat.reduceSub, Nat.reduceAdd, Nat.zero_add, List.set_cons_zero, List.set_cons_succ, Bool.not_true, Bool.not_false, if_true, if_false, Bool.false_eq_true, eq_int, ne_int, eq_bl, ne_bl, le_int, lt_int, ge_int, gt_int, sub_int, add_int, neg_int, abs_int]
  | _ => first | (simp [pl] at hv; done) | simp [F_fits_row, B_fits_row, sp_is_tuple_of hv, tupL, rowOk, oSome, oNone, eSl, vSl, runF, env0, sSeq, sIf, sRet, sVal, sDrop, sPars, sUnp, sNext, sRetN, sRaise, mVal, mOwn, mNil, setE, eVar, eVarB, eK, eB1, eB2, eTup, eLst, aNil, aCons, bd_ok, bd_exn, sb_ok, sb_exn, tV, tAnd, tOr, tNot, eAnd, eOr, eNot, eIf, eChain, callS, List.map_cons, List.map_nil, List.length_cons, List.length_nil, List.length_map, List.replicate, List.cons_append, List.nil_append, List.getElem?_cons_zero, List.getElem?_cons_succ, List.getElem?_nil, Nat.reduceSub, Nat.reduceAdd, Nat.zero_add, List.set_cons_zero, List.set_cons_succ, Bool.not_true, Bool.not_false, if_true, if_false, Bool.false_eq_true, eq_int, ne_int, eq_bl, ne_bl, le_int, lt_int, ge_int, gt_int, sub_int, add_int, neg_int, abs_int]
theorem sp__law_is_row (g : GM p h s) {k o : List Int} {v : Va} (hv : wf 32 v = true) (c : Cv) : F__law_is_row [mkV p h s, IT k, IT o, .int f, v] c = .ok (.bl (rowOk p h s k o f v)) c := by
  cases v with
  | tup ds =>
    have hw : wfs 31 ds = true := by simpa [wf] using hv
    rcases Nat.lt_or_ge 0 1 with _ | _
    · by_cases h1 : 1 ≤ (ds.length : Int)
      · have h1' : 0 < ds.length := by omega
        by_cases h2 : (ds.length : Int) ≤ 101
        · have h2' : (ds.length : Int) < 102 := by omega
          have h3' : ds.length < 102 := by omega
          have hl : ds.length ≤ 1000 := by omega
          have e1 := sp_C__law_is_row_1 g hw hl (IT k) (IT o) (.int f) c
          have n1 := ne_nil (ds.filterMap fun d => if !fitsK p h s d then some d else none) (wfs_fm fun d hd => wf_up 31 59 d (by omega) (wfs_mem hw d hd)) c
          rw [fm_empty (fun d => !fitsK p h s d) (fun d => d) ds] at n1
          generalize (ds.filterMap fun d => if !fitsK p h s d then some d else none) = L1 at e1 n1
          cases hk : ds.all (fitsK p h s) with
          | false =>
            have m1 : vNe (.lst L1) (.lst []) c = .ok (.bl true) c := by rw [n1]; simp only [Bool.not_not, hk]; rfl
            simp [F__law_is_row, B__law_is_row, vIsi, vtOf, isT, vLen, h1', h2', h3', e1, m1, rowOk, hk, h1, h2, oSome, oNone, eSl, vSl, runF, env0, sSeq, sIf, sRet, sVal, sDrop, sPars, sUnp, sNext, sRetN, sRaise, mVal, mOwn, mNil, setE, eVar, eVarB, eK, eB1, eB2, eTup, eLst, aNil, aCons, bd_ok, bd_exn, sb_ok, sb_exn, tV, tAnd, tOr, tNot, eAnd, eOr, eNot, eIf, eChain, callS, List.map_cons, List.map_nil, List.length_cons, List.length_nil, List.length_map, List.replicate, List.cons_append, List.nil_append, List.getElem?_cons_zero, List.getElem?_cons_succ, List.getElem?_nil, Nat.reduceSub, Nat.reduceAdd, Nat.zero_add, List.set_cons_zero, List.set_cons_succ, Bool.not_true, Bool.not_false, if_true, if_false, Bool.false_eq_true, eq_int, ne_int, eq_bl, ne_bl, le_int, lt_int, ge_int, gt_int, sub_int, add_int, neg_int, abs_int]
          | true =>
            have m1 : vNe (.lst L1) (.lst []) c = .ok (.bl false) c := by rw [n1]; simp only [Bool.not_not, hk]; rfl
            obtain ⟨rows, e, hr⟩ := rows_of hk
            subst e
            cases rows with
            | nil => simp at h1
            | cons r0 rs =>
              have e2 := sp_C__law_is_row_2 (f := f) g hr (by simpa using hl) (mkV p h s) (IT k) (IT o) c
              have n3 := eq_nil ((nbs (r0 :: rs)).filterMap fun q => if decide (f < far q.1 q.2) then some (Va.int 1) else none) (wfs_fm fun d hd => by simp [wf]) c
              rw [fm_empty (fun q : List Int × List Int => decide (f < far q.1 q.2)) (fun _ => Va.int 1) (nbs (r0 :: rs))] at n3
              have ea : ((nbs (r0 :: rs)).all fun q => !decide (f < far q.1 q.2)) = ((nbs (r0 :: rs)).all fun q => decide (far q.1 q.2 ≤ f)) := by
                congr 1
                funext q
                by_cases hq : far q.1 q.2 ≤ f
                · have : ¬ f < far q.1 q.2 := by omega
                  simp [hq, this]
                · have : f < far q.1 q.2 := by omega
                  simp [hq, this]
              rw [ea] at n3
              generalize ((nbs (r0 :: rs)).filterMap fun q => if decide (f < far q.1 q.2) then some (Va.int 1) else none) = L3 at e2 n3
              obtain ⟨z, hz⟩ : ∃ z, (r0 :: rs).getLast? = some z := ⟨_, List.getLast?_eq_some_getLast (by simp)⟩
              have hz2 : ((r0 :: rs).map IT).getLast? = some (IT z) := by rw [List.getLast?_map, hz]; rfl
              have i2 := ix_end _ _ hz2 c
              have ek : rowOk p h s k o f (.tup ((r0 :: rs).map IT)) = ((decide (r0 = k) && decide (z = o)) && (nbs (r0 :: rs)).all fun q => decide (far q.1 q.2 ≤ f)) := by
                show ((decide _ && decide _) && (_ && _)) = _
                rw [hk, keyOf_IT]
                unfold rowR
                rw [hz, decide_eq_true h1, decide_eq_true h2]
                simp only [Bool.true_and, List.head?_cons, Option.some.injEq]
              rw [ek]
              have i1 : vIx (.tup ((r0 :: rs).map IT)) (.int 0) c = .ok (IT r0) c := ix_first _ _ c
              generalize ((nbs (r0 :: rs)).all fun q => decide (far q.1 q.2 ≤ f)) = B at *
              generalize (r0 :: rs).map IT = L at *
              by_cases q1 : r0 = k
              · by_cases q2 : z = o
                · simp [F__law_is_row, B__law_is_row, vIsi, vtOf, isT, vLen, h1', h2', h3', e1, m1, e2, n3, i1, i2, ne_IT, q1, q2, oSome, oNone, eSl, vSl, runF, env0, sSeq, sIf, sRet, sVal, sDrop, sPars, sUnp, sNext, sRetN, sRaise, mVal, mOwn, mNil, setE, eVar, eVarB, eK, eB1, eB2, eTup, eLst, aNil, aCons, bd_ok, bd_exn, sb_ok, sb_exn, tV, tAnd, tOr, tNot, eAnd, eOr, eNot, eIf, eChain, callS, List.map_cons, List.map_nil, List.length_cons, List.length_nil, List.length_map, List.replicate, List.cons_append, List.nil_append, List.getElem?_cons_zero, List.getElem?_cons_succ, List.getElem?_nil, Nat.reduceSub, Nat.reduceAdd, Nat.zero_add, List.set_cons_zero, List.set_cons_succ, Bool.not_true, Bool.not_false, if_true, if_false, Bool.false_eq_true, eq_int, ne_int, eq_bl, ne_bl, le_int, lt_int, ge_int, gt_int, sub_int, add_int, neg_int, abs_int]
                · simp [F__law_is_row, B__law_is_row, vIsi, vtOf, isT, vLen, h1', h2', h3', e1, m1, i1, i2, ne_IT, q1, q2, oSome, oNone, eSl, vSl, runF, env0, sSeq, sIf, sRet, sVal, sDrop, sPars, sUnp, sNext, sRetN, sRaise, mVal, mOwn, mNil, setE, eVar, eVarB, eK, eB1, eB2, eTup, eLst, aNil, aCons, bd_ok, bd_exn, sb_ok, sb_exn, tV, tAnd, tOr, tNot, eAnd, eOr, eNot, eIf, eChain, callS, List.map_cons, List.map_nil, List.length_cons, List.length_nil, List.length_map, List.replicate, List.cons_append, List.nil_append, List.getElem?_cons_zero, List.getElem?_cons_succ, List.getElem?_nil, Nat.reduceSub, Nat.reduceAdd, Nat.zero_add, List.set_cons_zero, List.set_cons_succ, Bool.not_true, Bool.not_false, if_true, if_false, Bool.false_eq_true, eq_int, ne_int, eq_bl, ne_bl, le_int, lt_int, ge_int, gt_int, sub_int, add_int, neg_int, abs_int]
              · simp [F__law_is_row, B__law_is_row, vIsi, vtOf, isT, vLen, h1', h2', h3', e1, m1, i1, ne_IT, q1, oSome, oNone, eSl, vSl, runF, env0, sSeq, sIf, sRet, sVal, sDrop, sPars, sUnp, sNext, sRetN, sRaise, mVal, mOwn, mNil, setE, eVar, eVarB, eK, eB1, eB2, eTup, eLst, aNil, aCons, bd_ok, bd_exn, sb_ok, sb_exn, tV, tAnd, tOr, tNot, eAnd, eOr, eNot, eIf, eChain, callS, List.map_cons, List.map_nil, List.length_cons, List.length_nil, List.length_map, List.replicate, List.cons_append, List.nil_append, List.getElem?_cons_zero, List.getElem?_cons_succ, List.getElem?_nil, Nat.reduceSub, Nat.reduceAdd, Nat.zero_add, List.set_cons_zero, List.set_cons_succ, Bool.not_true, Bool.not_false, if_true, if_false, Bool.false_eq_true, eq_int, ne_int, eq_bl, ne_bl, le_int, lt_int, ge_int, gt_int, sub_int, add_int, neg_int, abs_int]
        · have h2' : ¬ (ds.length : Int) < 102 := by omega
          have h3' : ¬ ds.length < 102 := by omega
          simp [F__law_is_row, B__law_is_row, vIsi, vtOf, isT, vLen, h1', h2', h3', rowOk, h1, h2, oSome, oNone, eSl, vSl, runF, env0, sSeq, sIf, sRet, sVal, sDrop, sPars, sUnp, sNext, sRetN, sRaise, mVal, mOwn, mNil, setE, eVar, eVarB, eK, eB1, eB2, eTup, eLst, aNil, aCons, bd_ok, bd_exn, sb_ok, sb_exn, tV, tAnd, tOr, tNot, eAnd, eOr, eNot, eIf, eChain, callS, List.map_cons, List.map_nil, List.length_cons, List.length_nil, List.length_map, List.replicate, List.cons_append, List.nil_append, List.getElem?_cons_zero, List.getElem?_cons_succ, List.getElem?_nil, Nat.reduceSub, Nat.reduceAdd, Nat.zero_add, List.set_cons_zero, List.set_cons_succ, Bool.not_true, Bool.not_false, if_true, if_false, Bool.false_eq_true, eq_int, ne_int, eq_bl, ne_bl, le_int, lt_int, ge_int, gt_int, sub_int, add_int, neg_int, abs_int]
      · have h0 : ds = [] := List.eq_nil_of_length_eq_zero (by omega)
        subst h0
        simp [F__law_is_row, B__law_is_row, vIsi, vtOf, isT, vLen, rowOk, oSome, oNone, eSl, vSl, runF, env0, sSeq, sIf, sRet, sVal, sDrop, sPars, sUnp, sNext, sRetN, sRaise, mVal, mOwn, mNil, setE, eVar, eVarB, eK, eB1, eB2, eTup, eLst, aNil, aCons, bd_ok, bd_exn, sb_ok, sb_exn, tV, tAnd, tOr, tNot, eAnd, eOr, eNot, eIf, eChain, callS, List.map_cons, List.map_nil, List.length_cons, List.length_nil, List.length_map, List.replicate, List.cons_append, List.nil_append, List.getElem?_cons_zero, List.getElem?_cons_succ, List.getElem?_nil, Nat.reduceSub, Nat.reduceAdd, Nat.zero_add, List.set_cons_zero, List.set_cons_succ, Bool.not_true, Bool.not_false, if_true, if_false, Bool.false_eq_true, eq_int, ne_int, eq_bl, ne_bl, le_int, lt_int, ge_int, gt_int, sub_int, add_int, neg_int, abs_int]
    · omega
  | _ => first | (simp [wf] at hv; done) | simp [F__law_is_row, B__law_is_row, vIsi, vtOf, isT, rowOk, oSome, oNone, eSl, vSl, runF, env0, sSeq, sIf, sRet, sVal, sDrop, sPars, sUnp, sNext, sRetN, sRaise, mVal, mOwn, mNil, setE, eVar, eVarB, eK, eB1, eB2, eTup, eLst, aNil, aCons, bd_ok, bd_exn, sb_ok, sb_exn, tV, tAnd, tOr, tNot, eAnd, eOr, eNot, eIf, eChain, callS, List.map_cons, List.map_nil, List.length_cons, List.length_nil, List.length_map, List.replicate, List.cons_append, List.nil_append, List.getElem?_cons_zero, List.getElem?_cons_succ, List.getElem?_nil, Nat.reduceSub, Nat.reduceAdd, Nat.zero_add, List.set_cons_zero, List.set_cons_succ, Bool.not_true, Bool.not_false, if_true, if_false, Bool.false_eq_true, eq_int, ne_int, eq_bl, ne_bl, le_int, lt_int, ge_int, gt_int, sub_int, add_int, neg_int, abs_int]
theorem sp_is_copy_row (g : GM p h s) {k o : List Int} (kk : Ky p h s k) (ko : Ky p h s o) (f0 : 0 ≤ f) (f9 : f ≤ 9) {v : Va} (hv : pl v = true) (c : Cv) : F_is_copy_row [mkV p h s, IT k, IT o, .int f, v] c = .ok (.bl (rowOk p h s k o f v)) c := by
  simp [F_is_copy_row, B_is_copy_row, sp_need_two_ok g kk ko f0 f9, sp_fits_row g hv, -List.map_cons, oSome, oNone, eSl, vSl, runF, env0, sSeq, sIf, sRet, sVal, sDrop, sPars, sUnp, sNext, sRetN, sRaise, mVal, mOwn, mNil, setE, eVar, eVarB, eK, eB1, eB2, eTup, eLst, aNil, aCons, bd_ok, bd_exn, sb_ok, sb_exn, tV, tAnd, tOr, tNot, eAnd, eOr, eNot, eIf, eChain, callS, List.map_cons, List.map_nil, List.length_cons, List.length_nil, List.length_map, List.replicate, List.cons_append, List.nil_append, List.getElem?_cons_zero, List.getElem?_cons_succ, List.getElem?_nil, Nat.reduceSub, Nat.reduceAdd, Nat.zero_add, List.set_cons_zero, List.set_cons_succ, Bool.not_true, Bool.not_false, if_true, if_false, Bool.false_eq_true, eq_int, ne_int, eq_bl, ne_bl, le_int, lt_int, ge_int, gt_int, sub_int, add_int, neg_int, abs_int]
end
end G

set_option Elab.async false
set_option linter.all false
set_option maxRecDepth 100000
set_option maxHeartbeats 2000000
namespace G
set_option autoImplicit false
open PySem PySem.Spec PyProof.Rows L2
/-! ### the maths of copies -/
theorem nbs_iff {α : Type} {xs : List α} {q : α × α} : q ∈ nbs xs ↔ ∃ i : Nat, xs[i]? = some q.1 ∧ xs[i + 1]? = some q.2 := by
  unfold nbs
  rw [List.mem_iff_getElem?]
  constructor
  · rintro ⟨i, h⟩
    rw [List.getElem?_zip_eq_some] at h
    refine ⟨i, h.1, ?_⟩
    have := h.2
    rw [List.getElem?_drop] at this
    rw [Nat.add_comm]; exact this
  · rintro ⟨i, h1, h2⟩
    refine ⟨i, ?_⟩
    rw [List.getElem?_zip_eq_some]
    refine ⟨h1, ?_⟩
    rw [List.getElem?_drop, Nat.add_comm]; exact h2
theorem nbs_zip {α β : Type} {a : List α} {b : List β} {q : (α × β) × (α × β)} (h : q ∈ nbs (a.zip b)) : (q.1.1, q.2.1) ∈ nbs a ∧ (q.1.2, q.2.2) ∈ nbs b := by
  obtain ⟨i, h1, h2⟩ := nbs_iff.mp h
  rw [List.getElem?_zip_eq_some] at h1 h2
  exact ⟨nbs_iff.mpr ⟨i, h1.1, h2.1⟩, nbs_iff.mpr ⟨i, h1.2, h2.2⟩⟩
theorem nbs_map {α β : Type} (f : α → β) {xs : List α} {q : β × β} (h : q ∈ nbs (xs.map f)) : ∃ r ∈ nbs xs, q = (f r.1, f r.2) := by
  obtain ⟨i, h1, h2⟩ := nbs_iff.mp h
  rw [List.getElem?_map] at h1 h2
  cases e1 : xs[i]? with
  | none => rw [e1] at h1; cases h1
  | some x =>
    cases e2 : xs[i + 1]? with
    | none => rw [e2] at h2; cases h2
    | some y =>
      rw [e1] at h1; rw [e2] at h2
      refine ⟨(x, y), nbs_iff.mpr ⟨i, e1, e2⟩, ?_⟩
      obtain ⟨a, b⟩ := q
      have z1 : f x = a := Option.some.inj h1
      have z2 : f y = b := Option.some.inj h2
      rw [← z1, ← z2]
theorem absI_le {x n : Int} : absI x ≤ n ↔ -n ≤ x ∧ x ≤ n := by unfold absI; split <;> omega
theorem far_le {a b : List Int} {n : Int} (h0 : 0 ≤ n) (h : ∀ q ∈ a.zip b, absI (q.1 - q.2) ≤ n) : far a b ≤ n := by
  by_cases hne : a.zip b = []
  · unfold far; rw [hne]; exact h0
  · obtain ⟨q, h1, h2⟩ := far_mem hne
    rw [h2]; exact h q h1
theorem adj_of {s : Int} {ns : List Int} (h : adj s ns = true) {q : Int × Int} (hq : q ∈ nbs ns) : absI (q.1 - q.2) ≤ s := by
  have := List.all_eq_true.mp h q hq
  simpa using this
theorem adj_iff {s : Int} {ns : List Int} : adj s ns = true ↔ ∀ q ∈ nbs ns, absI (q.1 - q.2) ≤ s := by
  unfold adj
  rw [List.all_eq_true]
  simp
section
variable {p h s f : Int} {k o : List Int}
theorem zip_len (kk : Ky p h s k) (ko : Ky p h s o) : ((k.zip o).length : Int) = p := by
  have := kk.len; have := ko.len
  rw [List.length_zip]
  omega
/-- a key made of two keys, place by place -/
theorem Ky.zipped (kk : Ky p h s k) (ko : Ky p h s o) (F : Int → Int → Int) (hb : ∀ x y, 0 ≤ x → x ≤ h - 1 → 0 ≤ y → y ≤ h - 1 → 0 ≤ F x y ∧ F x y ≤ h - 1)
    (hs : ∀ x y x' y', absI (x - x') ≤ s → absI (y - y') ≤ s → absI (F x y - F x' y') ≤ s) : Ky p h s ((k.zip o).map fun q => F q.1 q.2) where
  len := by rw [List.length_map]; exact zip_len kk ko
  bd := fun n hn => by
    obtain ⟨q, h1, rfl⟩ := List.mem_map.mp hn
    have a1 := kk.bd q.1 (List.of_mem_zip h1).1
    have a2 := ko.bd q.2 (List.of_mem_zip h1).2
    exact hb _ _ a1.1 a1.2 a2.1 a2.2
  ad := adj_iff.mpr fun q hq => by
    obtain ⟨r, h1, rfl⟩ := nbs_map _ hq
    obtain ⟨h2, h3⟩ := nbs_zip h1
    exact hs _ _ _ _ (adj_of kk.ad h2) (adj_of ko.ad h3)
theorem Ky.tow (kk : Ky p h s k) (ko : Ky p h s o) {d : Int} (d0 : 0 ≤ d) : Ky p h s (tow k o d) :=
  kk.zipped ko (fun x y => clamp d x y) (fun x y _ _ _ _ => by unfold clamp; omega) fun x y x' y' h1 h2 => by
    rw [absI_le] at *
    unfold clamp
    omega
theorem tow_0 (kk : Ky p h s k) (ko : Ky p h s o) : tow k o 0 = k := by
  have e : (fun q : Int × Int => clamp 0 q.1 q.2) = Prod.fst := by funext q; unfold clamp; omega
  unfold tow
  rw [e, List.map_fst_zip]
  have := kk.len; have := ko.len
  omega
theorem tow_far (kk : Ky p h s k) (ko : Ky p h s o) {d : Int} (hd : far k o ≤ d) : tow k o d = o := by
  unfold tow
  have e : (k.zip o).map (fun q => clamp d q.1 q.2) = (k.zip o).map Prod.snd := by
    apply List.map_congr_left
    intro q hq
    have h1 := far_ge hq
    have h2 : absI (q.1 - q.2) ≤ d := by omega
    rw [absI_le] at h2
    unfold clamp
    omega
  rw [e, List.map_snd_zip]
  have := kk.len; have := ko.len
  omega
theorem far_tow {d d' : Int} (h0 : 0 ≤ d) (h1 : d ≤ d') : far (tow k o d) (tow k o d') ≤ d' - d := by
  apply far_le (by omega)
  intro q hq
  have e : (tow k o d).zip (tow k o d') = (k.zip o).map fun q => (clamp d q.1 q.2, clamp d' q.1 q.2) := by
    unfold tow
    rw [List.zip_map']
  rw [e] at hq
  obtain ⟨r, h2, rfl⟩ := List.mem_map.mp hq
  rw [absI_le]
  simp only [clamp]
  omega
theorem rowsV_eq (n : Nat) : rowsV k o f n = ((List.range n).map fun (t : Nat) => tow k o (f * t)).map IT := by
  unfold rowsV
  rw [List.map_map]; rfl
theorem rowOk_own (g : GM p h s) (kk : Ky p h s k) (ko : Ky p h s o) (f0 : 0 ≤ f) {m : Nat} (hm : m ≤ 100) (hf : far k o ≤ f * (m : Int)) : rowOk p h s k o f (.tup (rowsV k o f (m + 1))) = true := by
  have ht : ∀ t : Nat, 0 ≤ f * (t : Int) := fun t => Int.mul_nonneg f0 (by omega)
  have hall : (rowsV k o f (m + 1)).all (fitsK p h s) = true := by
    rw [List.all_eq_true]
    intro d hd
    obtain ⟨t, _, rfl⟩ := List.mem_map.mp hd
    exact (kk.tow ko (ht t)).fits
  have hlen : (rowsV k o f (m + 1)).length = m + 1 := by simp [rowsV]
  show ((decide _ && decide _) && (_ && _)) = true
  rw [hall, hlen, rowsV_eq, keyOf_IT, decide_eq_true (by omega), decide_eq_true (by omega)]
  simp only [Bool.true_and]
  unfold rowR
  have e1 : ((List.range (m + 1)).map fun (t : Nat) => tow k o (f * (t : Int))).head? = some k := by
    rw [List.head?_map, List.head?_range]
    simp [tow_0 kk ko]
  have e2 : ((List.range (m + 1)).map fun (t : Nat) => tow k o (f * (t : Int))).getLast? = some o := by
    rw [List.getLast?_map, List.range_succ, List.getLast?_concat]
    simp [tow_far kk ko hf]
  rw [e1, e2]
  simp only [decide_true, Bool.true_and, List.all_eq_true, decide_eq_true_eq]
  intro q hq
  obtain ⟨r, h1, rfl⟩ := nbs_map _ hq
  obtain ⟨i, h2, h3⟩ := nbs_iff.mp h1
  obtain ⟨_, a1⟩ := List.getElem?_eq_some_iff.mp h2
  obtain ⟨_, a2⟩ := List.getElem?_eq_some_iff.mp h3
  rw [List.getElem_range] at a1 a2
  have hi : f * ((i : Nat) : Int) ≤ f * ((i + 1 : Nat) : Int) := Int.mul_le_mul_of_nonneg_left (by omega) f0
  have := far_tow (k := k) (o := o) (ht i) hi
  rw [← a1, ← a2]
  have e : f * ((i + 1 : Nat) : Int) = f * (i : Int) + f := by
    rw [Int.natCast_add, Int.mul_add]; simp
  show far (tow k o (f * (i : Nat))) (tow k o (f * ((i + 1 : Nat) : Int))) ≤ f
  omega
end
end G

set_option Elab.async false
set_option linter.all false
set_option maxRecDepth 100000
set_option maxHeartbeats 2000000
namespace G
set_option autoImplicit false
open PySem PySem.Spec PyProof.Rows L2
theorem le24 {n : Nat} (h : n ≤ 1000) : (n ≤ L24) = True := eq_true (l24_of h)
theorem add_tup {xs ys : List Va} (h : xs.length + ys.length ≤ 1000) (c : Cv) : vAdd (.tup xs) (.tup ys) c = .ok (.tup (xs ++ ys)) c := if_pos (l24_of h)
theorem add_lst {xs ys : List Va} (h : xs.length + ys.length ≤ 1000) (c : Cv) : vAdd (.lst xs) (.lst ys) c = .ok (.lst (xs ++ ys)) c := if_pos (l24_of h)
/-! ### the cup -/
def CupOk (c : Cv) : Prop := ∃ x y : Int, c = some (x, y) ∧ 0 ≤ y ∧ y < 4294967296
theorem cup_ix0 (x y : Int) : vIx .cup (.int 0) (some (x, y)) = .ok (.int x) (some (x, y)) := rfl
theorem cup_ix1 (x y : Int) : vIx .cup (.int 1) (some (x, y)) = .ok (.int y) (some (x, y)) := rfl
theorem int_int (i : Int) (c : Cv) : vInt (.int i) c = .ok (.int i) c := rfl
theorem na1 {x : Int} (n : Nat) (h : -(n : Int) ≤ x) (h2 : x ≤ n) (hn : n < 18446744073709551616 := by decide) : x.natAbs < 18446744073709551616 := Nat.lt_of_le_of_lt (m := n) (by omega) hn
theorem sp__law_roll {c : Cv} (hc : CupOk c) {m : Int} (h0 : 0 < m) (h1 : m < 1073741824) : ∃ (r : Int) (c' : Cv), F__law_roll [.cup, .int m] c = .ok (.int r) c' ∧ 0 ≤ r ∧ r < m ∧ CupOk c' := by
  obtain ⟨x, y, rfl, y0, y1⟩ := hc
  by_cases hx : 0 < x
  · refine ⟨x % m, some (x / m, y), ?_, Int.emod_nonneg _ (by omega), Int.emod_lt_of_pos _ h0, x / m, y, rfl, y0, y1⟩
    have e1 := mod_int x m (some (x, y)) h0
    have e2 := div_int x m (some (x, y)) h0 h1
    simp [F__law_roll, B__law_roll, sCupSet, cup_ix0, hx, e1, e2, int_int, oSome, oNone, eSl, vSl, runF, env0, sSeq, sIf, sRet, sVal, sDrop, sPars, sUnp, sNext, sRetN, sRaise, mVal, mOwn, mNil, setE, eVar, eVarB, eK, eB1, eB2, eTup, eLst, aNil, aCons, bd_ok, bd_exn, sb_ok, sb_exn, tV, tAnd, tOr, tNot, eAnd, eOr, eNot, eIf, eChain, callS, List.map_cons, List.map_nil, List.length_cons, List.length_nil, List.length_map, List.replicate, List.cons_append, List.nil_append, List.getElem?_cons_zero, List.getElem?_cons_succ, List.getElem?_nil, Nat.reduceSub, Nat.reduceAdd, Nat.zero_add, List.set_cons_zero, List.set_cons_succ, Bool.not_true, Bool.not_false, if_true, if_false, Bool.false_eq_true, eq_int, ne_int, eq_bl, ne_bl, le_int, lt_int, ge_int, gt_int, sub_int, add_int, neg_int, abs_int]
  · have b1 : 0 ≤ (y * 36817 + 12439) % 2147482951 := Int.emod_nonneg _ (by decide)
    have b2 : (y * 36817 + 12439) % 2147482951 < 2147482951 := Int.emod_lt_of_pos _ (by decide)
    have e1 := fun c => mul_int y 36817 c (.inr (by decide))
    have e2 := fun c => mod_int (y * 36817 + 12439) 2147482951 c (by decide)
    simp only [F__law_roll, B__law_roll, sCupSet, cup_ix0, cup_ix1, hx, e1, e2, int_int, oSome, oNone, eSl, vSl, runF, env0, sSeq, sIf, sRet, sVal, sDrop, sPars, sUnp, sNext, sRetN, sRaise, mVal, mOwn, mNil, setE, eVar, eVarB, eK, eB1, eB2, eTup, eLst, aNil, aCons, bd_ok, bd_exn, sb_ok, sb_exn, tV, tAnd, tOr, tNot, eAnd, eOr, eNot, eIf, eChain, callS, List.map_cons, List.map_nil, List.length_cons, List.length_nil, List.length_map, List.replicate, List.cons_append, List.nil_append, List.getElem?_cons_zero, List.getElem?_cons_succ, List.getElem?_nil, Nat.reduceSub, Nat.reduceAdd, Nat.zero_add, List.set_cons_zero, List.set_cons_succ, Bool.not_true, Bool.not_false, if_true, if_false, Bool.false_eq_true, eq_int, ne_int, eq_bl, ne_bl, le_int, lt_int, ge_int, gt_int, sub_int, add_int, neg_int, abs_int, decide_false]
    simp only [cup_ix0, cup_ix1, e1, e2, int_int, oSome, oNone, eSl, vSl, runF, env0, sSeq, sIf, sRet, sVal, sDrop, sPars, sUnp, sNext, sRetN, sRaise, mVal, mOwn, mNil, setE, eVar, eVarB, eK, eB1, eB2, eTup, eLst, aNil, aCons, bd_ok, bd_exn, sb_ok, sb_exn, tV, tAnd, tOr, tNot, eAnd, eOr, eNot, eIf, eChain, callS, List.map_cons, List.map_nil, List.length_cons, List.length_nil, List.length_map, List.replicate, List.cons_append, List.nil_append, List.getElem?_cons_zero, List.getElem?_cons_succ, List.getElem?_nil, Nat.reduceSub, Nat.reduceAdd, Nat.zero_add, List.set_cons_zero, List.set_cons_succ, Bool.not_true, Bool.not_false, if_true, if_false, Bool.false_eq_true, eq_int, ne_int, eq_bl, ne_bl, le_int, lt_int, ge_int, gt_int, sub_int, add_int, neg_int, abs_int, Nat.one_ne_zero]
    generalize (y * 36817 + 12439) % 2147482951 = z at *
    have n1 : z.natAbs < 18446744073709551616 := na1 2147482951 (by omega) (by omega)
    have e3 := fun c => mul_int z (z + 1207) c (.inl n1)
    have e4 := fun c => mod_int (z * (z + 1207)) 2147483059 c (by decide)
    generalize z * (z + 1207) = u at *
    have e5 := fun c => div_int (u % 2147483059) 2465 c (by decide) (by decide)
    have e6 := fun c => mod_int (u % 2147483059 / 2465) m c h0
    refine ⟨u % 2147483059 / 2465 % m, some (x, z), ?_, Int.emod_nonneg _ (by omega), Int.emod_lt_of_pos _ h0, x, z, rfl, b1, by omega⟩
    simp [cup_ix1, e3, e4, e5, e6, int_int, oSome, oNone, eSl, vSl, runF, env0, sSeq, sIf, sRet, sVal, sDrop, sPars, sUnp, sNext, sRetN, sRaise, mVal, mOwn, mNil, setE, eVar, eVarB, eK, eB1, eB2, eTup, eLst, aNil, aCons, bd_ok, bd_exn, sb_ok, sb_exn, tV, tAnd, tOr, tNot, eAnd, eOr, eNot, eIf, eChain, callS, List.map_cons, List.map_nil, List.length_cons, List.length_nil, List.length_map, List.replicate, List.cons_append, List.nil_append, List.getElem?_cons_zero, List.getElem?_cons_succ, List.getElem?_nil, Nat.reduceSub, Nat.reduceAdd, Nat.zero_add, List.set_cons_zero, List.set_cons_succ, Bool.not_true, Bool.not_false, if_true, if_false, Bool.false_eq_true, eq_int, ne_int, eq_bl, ne_bl, le_int, lt_int, ge_int, gt_int, sub_int, add_int, neg_int, abs_int]
theorem sp__law_some {c : Cv} (hc : CupOk c) {ds : List Va} (hn : ds ≠ []) (hl : ds.length ≤ 1000) : ∃ (d : Va) (c' : Cv), F__law_some [.cup, .lst ds] c = .ok d c' ∧ d ∈ ds ∧ CupOk c' := by
  have hp : 0 < ds.length := List.length_pos_iff.mpr hn
  obtain ⟨r, c', e, r0, r1, hc'⟩ := sp__law_roll hc (m := (ds.length : Int)) (by omega) (by omega)
  obtain ⟨n, rfl⟩ := Int.eq_ofNat_of_zero_le r0
  have hlt : n < ds.length := by omega
  have hg : ds[n]? = some ds[n] := List.getElem?_eq_getElem hlt
  have ha := at_get hg
  refine ⟨ds[n], c', ?_, List.getElem_mem hlt, hc'⟩
  simp [F__law_some, B__law_some, vLen, e, vIx, ha, oSome, oNone, eSl, vSl, runF, env0, sSeq, sIf, sRet, sVal, sDrop, sPars, sUnp, sNext, sRetN, sRaise, mVal, mOwn, mNil, setE, eVar, eVarB, eK, eB1, eB2, eTup, eLst, aNil, aCons, bd_ok, bd_exn, sb_ok, sb_exn, tV, tAnd, tOr, tNot, eAnd, eOr, eNot, eIf, eChain, callS, List.map_cons, List.map_nil, List.length_cons, List.length_nil, List.length_map, List.replicate, List.cons_append, List.nil_append, List.getElem?_cons_zero, List.getElem?_cons_succ, List.getElem?_nil, Nat.reduceSub, Nat.reduceAdd, Nat.zero_add, List.set_cons_zero, List.set_cons_succ, Bool.not_true, Bool.not_false, if_true, if_false, Bool.false_eq_true, eq_int, ne_int, eq_bl, ne_bl, le_int, lt_int, ge_int, gt_int, sub_int, add_int, neg_int, abs_int]
theorem sp__law_make {c : Cv} (hc : CupOk c) : ∃ (p h s : Int) (c' : Cv), F__law_make [.cup] c = .ok (mkV p h s) c' ∧ GM p h s ∧ CupOk c' := by
  obtain ⟨r, c1, e1, r0, r1, hc1⟩ := sp__law_roll hc (m := 4) (by decide) (by decide)
  by_cases hr : r = 0
  · obtain ⟨r2, c2, e2, a0, a1, hc2⟩ := sp__law_roll hc1 (m := 9) (by decide) (by decide)
    refine ⟨8, 10, 1 + r2, c2, ?_, ⟨by omega, by omega, by omega, by omega, by omega, by omega⟩, hc2⟩
    simp [F__law_make, B__law_make, le24, e1, hr, e2, oSome, oNone, eSl, vSl, runF, env0, sSeq, sIf, sRet, sVal, sDrop, sPars, sUnp, sNext, sRetN, sRaise, mVal, mOwn, mNil, setE, eVar, eVarB, eK, eB1, eB2, eTup, eLst, aNil, aCons, bd_ok, bd_exn, sb_ok, sb_exn, tV, tAnd, tOr, tNot, eAnd, eOr, eNot, eIf, eChain, callS, List.map_cons, List.map_nil, List.length_cons, List.length_nil, List.length_map, List.replicate, List.cons_append, List.nil_append, List.getElem?_cons_zero, List.getElem?_cons_succ, List.getElem?_nil, Nat.reduceSub, Nat.reduceAdd, Nat.zero_add, List.set_cons_zero, List.set_cons_succ, Bool.not_true, Bool.not_false, if_true, if_false, Bool.false_eq_true, eq_int, ne_int, eq_bl, ne_bl, le_int, lt_int, ge_int, gt_int, sub_int, add_int, neg_int, abs_int]
  · obtain ⟨r2, c2, e2, a0, a1, hc2⟩ := sp__law_roll hc1 (m := 5) (by decide) (by decide)
    obtain ⟨r3, c3, e3, b0, b1, hc3⟩ := sp__law_roll hc2 (m := 9) (by decide) (by decide)
    obtain ⟨r4, c4, e4, d0, d1, hc4⟩ := sp__law_roll hc3 (m := 4) (by decide) (by decide)
    refine ⟨1 + r2, 2 + r3, 1 + r4, c4, ?_, ⟨by omega, by omega, by omega, by omega, by omega, by omega⟩, hc4⟩
    simp [F__law_make, B__law_make, le24, e1, hr, e2, e3, e4, oSome, oNone, eSl, vSl, runF, env0, sSeq, sIf, sRet, sVal, sDrop, sPars, sUnp, sNext, sRetN, sRaise, mVal, mOwn, mNil, setE, eVar, eVarB, eK, eB1, eB2, eTup, eLst, aNil, aCons, bd_ok, bd_exn, sb_ok, sb_exn, tV, tAnd, tOr, tNot, eAnd, eOr, eNot, eIf, eChain, callS, List.map_cons, List.map_nil, List.length_cons, List.length_nil, List.length_map, List.replicate, List.cons_append, List.nil_append, List.getElem?_cons_zero, List.getElem?_cons_succ, List.getElem?_nil, Nat.reduceSub, Nat.reduceAdd, Nat.zero_add, List.set_cons_zero, List.set_cons_succ, Bool.not_true, Bool.not_false, if_true, if_false, Bool.false_eq_true, eq_int, ne_int, eq_bl, ne_bl, le_int, lt_int, ge_int, gt_int, sub_int, add_int, neg_int, abs_int]
theorem sp__law_cup (ns : List Int) (c : Cv) (hl : ns.length ≤ 63) : ∃ x y : Int, F__law_cup [.scr ns] c = .ok (.lst [.int x, .int y]) c ∧ 0 ≤ y ∧ y < 4294967296 := by
  obtain ⟨a, t, ea⟩ : ∃ a t, ns.map Va.int ++ [Va.int 0] = Va.int a :: t := by cases ns <;> exact ⟨_, _, rfl⟩
  have hl2 : ∀ c, vAdd (.lst (ns.map Va.int)) (.lst [.int 0]) c = .ok (.lst (.int a :: t)) c := fun c => by rw [add_lst (by simp; omega), ea]
  have i0 : atI (Va.int a :: t) 0 = some (Va.int a) := by
    have := at_get (xs := Va.int a :: t) (i := 0) (x := Va.int a) rfl
    simpa using this
  have ix : ∀ c, vIx (.lst (.int a :: t)) (.int 0) c = .ok (.int a) c := fun c => by simp only [vIx, i0]
  generalize hcell : (if a < 0 then -a else a) = cell
  have e1 := fun c => mul_int cell 1959 c (.inr (by decide))
  have e2 := fun c => mod_int (cell * 1959 + 10391) 2077541503 c (by decide)
  have e3 := fun c => div_int cell 3553 c (by decide) (by decide)
  have hp : ∀ c, vPow (.int 10) (.int 18) c = .ok (.int 1000000000000000000) c := fun c => by
    simp [vPow, vI2, gPow]
  have b1 : 0 ≤ (cell * 1959 + 10391) % 2077541503 := Int.emod_nonneg _ (by decide)
  have b2 : (cell * 1959 + 10391) % 2077541503 < 2077541503 := Int.emod_lt_of_pos _ (by decide)
  by_cases h : 1000000000000000000 ≤ cell
  · refine ⟨cell / 3553, (cell * 1959 + 10391) % 2077541503 + 837, ?_, by omega, by omega⟩
    simp [F__law_cup, B__law_cup, le24, vLstOf, hl2, ix, hcell, hp, h, e1, e2, e3, int_int, oSome, oNone, eSl, vSl, runF, env0, sSeq, sIf, sRet, sVal, sDrop, sPars, sUnp, sNext, sRetN, sRaise, mVal, mOwn, mNil, setE, eVar, eVarB, eK, eB1, eB2, eTup, eLst, aNil, aCons, bd_ok, bd_exn, sb_ok, sb_exn, tV, tAnd, tOr, tNot, eAnd, eOr, eNot, eIf, eChain, callS, List.map_cons, List.map_nil, List.length_cons, List.length_nil, List.length_map, List.replicate, List.cons_append, List.nil_append, List.getElem?_cons_zero, List.getElem?_cons_succ, List.getElem?_nil, Nat.reduceSub, Nat.reduceAdd, Nat.zero_add, List.set_cons_zero, List.set_cons_succ, Bool.not_true, Bool.not_false, if_true, if_false, Bool.false_eq_true, eq_int, ne_int, eq_bl, ne_bl, le_int, lt_int, ge_int, gt_int, sub_int, add_int, neg_int, abs_int]
  · refine ⟨0, (cell * 1959 + 10391) % 2077541503 + 837, ?_, by omega, by omega⟩
    simp [F__law_cup, B__law_cup, le24, vLstOf, hl2, ix, hcell, hp, h, e1, e2, e3, int_int, oSome, oNone, eSl, vSl, runF, env0, sSeq, sIf, sRet, sVal, sDrop, sPars, sUnp, sNext, sRetN, sRaise, mVal, mOwn, mNil, setE, eVar, eVarB, eK, eB1, eB2, eTup, eLst, aNil, aCons, bd_ok, bd_exn, sb_ok, sb_exn, tV, tAnd, tOr, tNot, eAnd, eOr, eNot, eIf, eChain, callS, List.map_cons, List.map_nil, List.length_cons, List.length_nil, List.length_map, List.replicate, List.cons_append, List.nil_append, List.getElem?_cons_zero, List.getElem?_cons_succ, List.getElem?_nil, Nat.reduceSub, Nat.reduceAdd, Nat.zero_add, List.set_cons_zero, List.set_cons_succ, Bool.not_true, Bool.not_false, if_true, if_false, Bool.false_eq_true, eq_int, ne_int, eq_bl, ne_bl, le_int, lt_int, ge_int, gt_int, sub_int, add_int, neg_int, abs_int]
end G

set_option Elab.async false
set_option linter.all false
set_option maxRecDepth 100000
set_option maxHeartbeats 2000000
namespace G
set_option autoImplicit false
open PySem PySem.Spec PyProof.Rows L2
theorem adj_snoc {s : Int} {ns : List Int} {z w : Int} (h : adj s ns = true) (hz : ns.getLast? = some z) (hw : absI (z - w) ≤ s) : adj s (ns ++ [w]) = true := adj_iff.mpr fun q hq => by
  obtain ⟨i, h1, h2⟩ := nbs_iff.mp hq
  by_cases hi : i + 1 < ns.length
  · rw [List.getElem?_append_left (by omega)] at h1
    rw [List.getElem?_append_left hi] at h2
    exact adj_of h (nbs_iff.mpr ⟨i, h1, h2⟩)
  · have hl : i + 1 < (ns ++ [w]).length := (List.getElem?_eq_some_iff.mp h2).1
    have hi2 : i + 1 = ns.length := by simp at hl; omega
    rw [List.getElem?_append_left (by omega)] at h1
    rw [List.getElem?_append_right (by omega), hi2, Nat.sub_self] at h2
    rw [List.getLast?_eq_getElem?, show ns.length - 1 = i by omega] at hz
    have e1 : z = q.1 := Option.some.inj (hz.symm.trans h1)
    have e2 : w = q.2 := Option.some.inj h2
    rw [← e1, ← e2]; exact hw
theorem rngZ {a : Int} {m : Nat} (h : a = m) (hm : m ≤ 1000) (fe : SE) (env : Ev) (c : Cv) (e : fe env c = .ok (.int a) c) : iRange1 fe env c = .ok ((List.range m).map fun (t : Nat) => Va.int (t : Int)) c := rng h hm fe env c e
theorem sp__law_key {p h s : Int} (g : GM p h s) {c : Cv} (hc : CupOk c) : ∃ (k : List Int) (c' : Cv), F__law_key [.cup, mkV p h s] c = .ok (IT k) c' ∧ Ky p h s k ∧ CupOk c' := by
  obtain ⟨p1, p8, h2, h10, s1, s9⟩ := g
  obtain ⟨r, c1, e1, r0, r1, hc1⟩ := sp__law_roll hc (m := h) (by omega) (by omega)
  obtain ⟨m, hm⟩ : ∃ m : Nat, p - 1 = m := ⟨(p - 1).toNat, by omega⟩
  have hrg : iRange1 (eB2 (eB2 (eVarB 1) (eK (.int 0)) vIx) (eK (.int 1)) vSub) [.val .cup, .val (mkV p h s), .val (.tup [.int r]), .un, .un, .un] c1 = .ok ((List.range m).map fun (t : Nat) => Va.int (t : Int)) c1 :=
    rng (a := p - 1) (m := m) hm (by omega) _ _ _ (by simp [ix0, oSome, oNone, eSl, vSl, runF, env0, sSeq, sIf, sRet, sVal, sDrop, sPars, sUnp, sNext, sRetN, sRaise, mVal, mOwn, mNil, setE, eVar, eVarB, eK, eB1, eB2, eTup, eLst, aNil, aCons, bd_ok, bd_exn, sb_ok, sb_exn, tV, tAnd, tOr, tNot, eAnd, eOr, eNot, eIf, eChain, callS, List.map_cons, List.map_nil, List.length_cons, List.length_nil, List.length_map, List.replicate, List.cons_append, List.nil_append, List.getElem?_cons_zero, List.getElem?_cons_succ, List.getElem?_nil, Nat.reduceSub, Nat.reduceAdd, Nat.zero_add, List.set_cons_zero, List.set_cons_succ, Bool.not_true, Bool.not_false, if_true, if_false, Bool.false_eq_true, eq_int, ne_int, eq_bl, ne_bl, le_int, lt_int, ge_int, gt_int, sub_int, add_int, neg_int, abs_int])
  have key := forL_inv (t := tN) (is := [3]) (body := L__law_key_1) (fun (t : Nat) => Va.int (t : Int))
    (fun rest env c => CupOk c ∧ ∃ (ns : List Int) (z : Int) (s3 s4 s5 : Sl), env = [.val .cup, .val (mkV p h s), .val (IT ns), s3, s4, s5] ∧ (ns.length : Int) + (rest.length : Int) = p ∧ ns.getLast? = some z ∧ (∀ n ∈ ns, 0 ≤ n ∧ n ≤ h - 1) ∧ adj s ns = true)
    (fun o => ∃ (k : List Int) (s3 s4 s5 : Sl) (c' : Cv), o = .nx [.val .cup, .val (mkV p h s), .val (IT k), s3, s4, s5] c' ∧ Ky p h s k ∧ CupOk c')
    (List.range m) [.val .cup, .val (mkV p h s), .val (.tup [.int r]), .un, .un, .un] c1
    ⟨hc1, [r], r, .un, .un, .un, rfl, by simp; omega, rfl, by simp; omega, by simp [adj, nbs]⟩
    (by
      rintro t rest env c ⟨hc, ns, z, s3, s4, s5, rfl, hl, hz, hb, ha⟩
      have zb := hb z (List.mem_of_getLast? hz)
      have hn : ns.length ≤ 8 := by simp at hl; omega
      refine ⟨[.int t], rfl, .inl ?_⟩
      have il : ∀ c, vIx (IT ns) (.int (-1)) c = .ok (.int z) c := fun c => ix_end _ _ (by rw [List.getLast?_map, hz]; rfl) c
      have q1 : vMax2 (.int 0) (.int (z - s)) c = .ok (.int (if z - s > 0 then z - s else 0)) c := rfl
      have q2 : vMin2 (.int (h - 1)) (.int (z + s)) c = .ok (.int (if z + s < h - 1 then z + s else h - 1)) c := rfl
      obtain ⟨lo, hlo⟩ : ∃ lo, lo = (if z - s > 0 then z - s else 0) := ⟨_, rfl⟩
      obtain ⟨hi, hhi⟩ : ∃ hi, hi = (if z + s < h - 1 then z + s else h - 1) := ⟨_, rfl⟩
      rw [← hlo] at q1
      rw [← hhi] at q2
      have b1 : lo ≤ z ∧ 0 ≤ lo ∧ z - s ≤ lo := by rw [hlo]; split <;> omega
      have b2 : z ≤ hi ∧ hi ≤ h - 1 ∧ hi ≤ z + s := by rw [hhi]; split <;> omega
      obtain ⟨u, c2, e2, u0, u1, hc2⟩ := sp__law_roll hc (m := hi - lo + 1) (by omega) (by omega)
      have ad : ∀ c, vAdd (IT ns) (.tup [.int (lo + u)]) c = .ok (IT (ns ++ [lo + u])) c := fun c => by
        rw [add_tup (by simp; omega)]; simp
      refine ⟨[.val .cup, .val (mkV p h s), .val (IT (ns ++ [lo + u])), .val (.int t), .val (.int lo), .val (.int hi)], c2, .inl ?_, hc2, ns ++ [lo + u], lo + u, _, _, _, rfl, by simp at hl ⊢; omega, by simp, ?_, adj_snoc ha hz (by rw [absI_le]; omega)⟩
      · simp [L__law_key_1, il, ix1, ix2, q1, q2, e2, ad, le24, -List.map_append, oSome, oNone, eSl, vSl, runF, env0, sSeq, sIf, sRet, sVal, sDrop, sPars, sUnp, sNext, sRetN, sRaise, mVal, mOwn, mNil, setE, eVar, eVarB, eK, eB1, eB2, eTup, eLst, aNil, aCons, bd_ok, bd_exn, sb_ok, sb_exn, tV, tAnd, tOr, tNot, eAnd, eOr, eNot, eIf, eChain, callS, List.map_cons, List.map_nil, List.length_cons, List.length_nil, List.length_map, List.replicate, List.cons_append, List.nil_append, List.getElem?_cons_zero, List.getElem?_cons_succ, List.getElem?_nil, Nat.reduceSub, Nat.reduceAdd, Nat.zero_add, List.set_cons_zero, List.set_cons_succ, Bool.not_true, Bool.not_false, if_true, if_false, Bool.false_eq_true, eq_int, ne_int, eq_bl, ne_bl, le_int, lt_int, ge_int, gt_int, sub_int, add_int, neg_int, abs_int]
      · intro n hn
        rcases List.mem_append.mp hn with z1 | z1
        · exact hb n z1
        · rw [List.mem_singleton.mp z1]; omega)
    (by
      rintro env c ⟨hc, ns, z, s3, s4, s5, rfl, hl, hz, hb, ha⟩
      exact ⟨ns, s3, s4, s5, c, rfl, ⟨by simpa using hl, hb, ha⟩, hc⟩)
  obtain ⟨k, s3, s4, s5, c', e, kk, hc'⟩ := key
  refine ⟨k, c', ?_, kk, hc'⟩
  simp [F__law_key, B__law_key, ix1, e1, sFor, hrg, e, le24, -List.map_map, oSome, oNone, eSl, vSl, runF, env0, sSeq, sIf, sRet, sVal, sDrop, sPars, sUnp, sNext, sRetN, sRaise, mVal, mOwn, mNil, setE, eVar, eVarB, eK, eB1, eB2, eTup, eLst, aNil, aCons, bd_ok, bd_exn, sb_ok, sb_exn, tV, tAnd, tOr, tNot, eAnd, eOr, eNot, eIf, eChain, callS, List.map_cons, List.map_nil, List.length_cons, List.length_nil, List.length_map, List.replicate, List.cons_append, List.nil_append, List.getElem?_cons_zero, List.getElem?_cons_succ, List.getElem?_nil, Nat.reduceSub, Nat.reduceAdd, Nat.zero_add, List.set_cons_zero, List.set_cons_succ, Bool.not_true, Bool.not_false, if_true, if_false, Bool.false_eq_true, eq_int, ne_int, eq_bl, ne_bl, le_int, lt_int, ge_int, gt_int, sub_int, add_int, neg_int, abs_int]
end G

set_option Elab.async false
set_option linter.all false
set_option maxRecDepth 100000
set_option maxHeartbeats 2000000
namespace G
set_option autoImplicit false
open PySem PySem.Spec PyProof.Rows L2
/-! ### the same -/
def atm : Va → Bool
  | .non => true
  | .bl _ => true
  | .int _ => true
  | _ => false
theorem sp_same_atm {d : Va} (h : atm d = true) (n : Nat) (c : Cv) : F__law_same (n + 1) [d, d] c = .ok (.bl true) c := by
  cases d with
  | non => simp [F__law_same, B__law_same, vIsi, vtOf, isT, vIs, oSome, oNone, eSl, vSl, runF, env0, sSeq, sIf, sRet, sVal, sDrop, sPars, sUnp, sNext, sRetN, sRaise, mVal, mOwn, mNil, setE, eVar, eVarB, eK, eB1, eB2, eTup, eLst, aNil, aCons, bd_ok, bd_exn, sb_ok, sb_exn, tV, tAnd, tOr, tNot, eAnd, eOr, eNot, eIf, eChain, callS, List.map_cons, List.map_nil, List.length_cons, List.length_nil, List.length_map, List.replicate, List.cons_append, List.nil_append, List.getElem?_cons_zero, List.getElem?_cons_succ, List.getElem?_nil, Nat.reduceSub, Nat.reduceAdd, Nat.zero_add, List.set_cons_zero, List.set_cons_succ, Bool.not_true, Bool.not_false, if_true, if_false, Bool.false_eq_true, eq_int, ne_int, eq_bl, ne_bl, le_int, lt_int, ge_int, gt_int, sub_int, add_int, neg_int, abs_int]
  | bl b => cases b <;> simp [F__law_same, B__law_same, vIsi, vtOf, isT, vIs, oSome, oNone, eSl, vSl, runF, env0, sSeq, sIf, sRet, sVal, sDrop, sPars, sUnp, sNext, sRetN, sRaise, mVal, mOwn, mNil, setE, eVar, eVarB, eK, eB1, eB2, eTup, eLst, aNil, aCons, bd_ok, bd_exn, sb_ok, sb_exn, tV, tAnd, tOr, tNot, eAnd, eOr, eNot, eIf, eChain, callS, List.map_cons, List.map_nil, List.length_cons, List.length_nil, List.length_map, List.replicate, List.cons_append, List.nil_append, List.getElem?_cons_zero, List.getElem?_cons_succ, List.getElem?_nil, Nat.reduceSub, Nat.reduceAdd, Nat.zero_add, List.set_cons_zero, List.set_cons_succ, Bool.not_true, Bool.not_false, if_true, if_false, Bool.false_eq_true, eq_int, ne_int, eq_bl, ne_bl, le_int, lt_int, ge_int, gt_int, sub_int, add_int, neg_int, abs_int]
  | int i => simp [F__law_same, B__law_same, vIsi, vtOf, isT, vIs, int_int, oSome, oNone, eSl, vSl, runF, env0, sSeq, sIf, sRet, sVal, sDrop, sPars, sUnp, sNext, sRetN, sRaise, mVal, mOwn, mNil, setE, eVar, eVarB, eK, eB1, eB2, eTup, eLst, aNil, aCons, bd_ok, bd_exn, sb_ok, sb_exn, tV, tAnd, tOr, tNot, eAnd, eOr, eNot, eIf, eChain, callS, List.map_cons, List.map_nil, List.length_cons, List.length_nil, List.length_map, List.replicate, List.cons_append, List.nil_append, List.getElem?_cons_zero, List.getElem?_cons_succ, List.getElem?_nil, Nat.reduceSub, Nat.reduceAdd, Nat.zero_add, List.set_cons_zero, List.set_cons_succ, Bool.not_true, Bool.not_false, if_true, if_false, Bool.false_eq_true, eq_int, ne_int, eq_bl, ne_bl, le_int, lt_int, ge_int, gt_int, sub_int, add_int, neg_int, abs_int]
  | _ => simp [atm] at h
theorem sp_same_tup {ds : List Va} (h : ∀ d ∈ ds, atm d = true) (hl : ds.length ≤ 1000) (n : Nat) (c : Cv) : F__law_same (n + 2) [.tup ds, .tup ds] c = .ok (.bl true) c := by
  have e : C__law_same_1 (F__law_same (n + 1)) [.val (.tup ds), .val (.tup ds), .un] c = .ok (.lst ((List.range ds.length).map fun _ => .bl true)) c := by
    refine eLc_map (fun (t : Nat) => .int (t : Int)) (fun _ => .bl true) (List.range ds.length) (rng rfl hl _ _ _ (by simp [vLen, oSome, oNone, eSl, vSl, runF, env0, sSeq, sIf, sRet, sVal, sDrop, sPars, sUnp, sNext, sRetN, sRaise, mVal, mOwn, mNil, setE, eVar, eVarB, eK, eB1, eB2, eTup, eLst, aNil, aCons, bd_ok, bd_exn, sb_ok, sb_exn, tV, tAnd, tOr, tNot, eAnd, eOr, eNot, eIf, eChain, callS, List.map_cons, List.map_nil, List.length_cons, List.length_nil, List.length_map, List.replicate, List.cons_append, List.nil_append, List.getElem?_cons_zero, List.getElem?_cons_succ, List.getElem?_nil, Nat.reduceSub, Nat.reduceAdd, Nat.zero_add, List.set_cons_zero, List.set_cons_succ, Bool.not_true, Bool.not_false, if_true, if_false, Bool.false_eq_true, eq_int, ne_int, eq_bl, ne_bl, le_int, lt_int, ge_int, gt_int, sub_int, add_int, neg_int, abs_int])) (l24_of (by simpa using hl)) (by simp [ownFree]) fun t ht => lcS_yes rfl ?_
    have ht2 : t < ds.length := List.mem_range.mp ht
    have i1 := at_get (List.getElem?_eq_getElem ht2)
    have a1 := sp_same_atm (h _ (List.getElem_mem ht2)) n c
    simp [wipeE, vIx, i1, a1, oSome, oNone, eSl, vSl, runF, env0, sSeq, sIf, sRet, sVal, sDrop, sPars, sUnp, sNext, sRetN, sRaise, mVal, mOwn, mNil, setE, eVar, eVarB, eK, eB1, eB2, eTup, eLst, aNil, aCons, bd_ok, bd_exn, sb_ok, sb_exn, tV, tAnd, tOr, tNot, eAnd, eOr, eNot, eIf, eChain, callS, List.map_cons, List.map_nil, List.length_cons, List.length_nil, List.length_map, List.replicate, List.cons_append, List.nil_append, List.getElem?_cons_zero, List.getElem?_cons_succ, List.getElem?_nil, Nat.reduceSub, Nat.reduceAdd, Nat.zero_add, List.set_cons_zero, List.set_cons_succ, Bool.not_true, Bool.not_false, if_true, if_false, Bool.false_eq_true, eq_int, ne_int, eq_bl, ne_bl, le_int, lt_int, ge_int, gt_int, sub_int, add_int, neg_int, abs_int]
  have a := vAll_mapf (fun _ : Nat => true) (List.range ds.length) c
  have a2 : ((List.range ds.length).all fun _ => true) = true := by simp
  rw [a2] at a
  show runF 3 false (B__law_same (F__law_same (n + 1))) [.tup ds, .tup ds] c = _
  generalize F__law_same (n + 1) = R at e
  generalize ((List.range ds.length).map fun _ => Va.bl true) = L at e a
  simp [B__law_same, vIsi, vtOf, isT, vLen, e, a, oSome, oNone, eSl, vSl, runF, env0, sSeq, sIf, sRet, sVal, sDrop, sPars, sUnp, sNext, sRetN, sRaise, mVal, mOwn, mNil, setE, eVar, eVarB, eK, eB1, eB2, eTup, eLst, aNil, aCons, bd_ok, bd_exn, sb_ok, sb_exn, tV, tAnd, tOr, tNot, eAnd, eOr, eNot, eIf, eChain, callS, List.map_cons, List.map_nil, List.length_cons, List.length_nil, List.length_map, List.replicate, List.cons_append, List.nil_append, List.getElem?_cons_zero, List.getElem?_cons_succ, List.getElem?_nil, Nat.reduceSub, Nat.reduceAdd, Nat.zero_add, List.set_cons_zero, List.set_cons_succ, Bool.not_true, Bool.not_false, if_true, if_false, Bool.false_eq_true, eq_int, ne_int, eq_bl, ne_bl, le_int, lt_int, ge_int, gt_int, sub_int, add_int, neg_int, abs_int]
section
variable {p h s f : Int} {k o : List Int}
theorem far_symm (kk : Ky p h s k) (ko : Ky p h s o) (g : GM p h s) : far k o = far o k := by
  have le : ∀ {a b : List Int}, Ky p h s a → Ky p h s b → far a b ≤ far b a := fun {a b} ka kb => by
    apply far_le (far_bd g kb ka).1
    intro q hq
    have : (q.2, q.1) ∈ b.zip a := by
      obtain ⟨i, hi⟩ := List.mem_iff_getElem?.mp hq
      rw [List.getElem?_zip_eq_some] at hi
      exact List.mem_iff_getElem?.mpr ⟨i, by rw [List.getElem?_zip_eq_some]; exact ⟨hi.2, hi.1⟩⟩
    have h3 := absI_le.mp (far_ge this)
    simp only [] at h3
    rw [absI_le]
    omega
  exact Int.le_antisymm (le kk ko) (le ko kk)
/-- the middle of two keys -/
def mid (k o : List Int) : List Int := (k.zip o).map fun q => (q.1 + q.2) / 2
theorem Ky.mid (kk : Ky p h s k) (ko : Ky p h s o) : Ky p h s (mid k o) :=
  kk.zipped ko (fun x y => (x + y) / 2) (fun x y _ _ _ _ => by omega) fun x y x' y' h1 h2 => by
    rw [absI_le] at *
    omega
theorem far_zmap {a b : List Int} (F : Int → Int → Int) {n : Int} (h0 : 0 ≤ n) (h : ∀ q ∈ a.zip b, absI (q.1 - F q.1 q.2) ≤ n) : far a ((a.zip b).map fun q => F q.1 q.2) ≤ n := by
  apply far_le h0
  intro q hq
  obtain ⟨i, hi⟩ := List.mem_iff_getElem?.mp hq
  rw [List.getElem?_zip_eq_some] at hi
  obtain ⟨h1, h2⟩ := hi
  rw [List.getElem?_map] at h2
  cases e : (a.zip b)[i]? with
  | none => rw [e] at h2; cases h2
  | some r =>
    rw [e] at h2
    have e2 : F r.1 r.2 = q.2 := Option.some.inj h2
    have e3 := (List.getElem?_zip_eq_some.mp e).1
    have e4 : r.1 = q.1 := Option.some.inj (e3.symm.trans h1)
    have := h r (List.mem_iff_getElem?.mpr ⟨i, e⟩)
    rw [e2, e4] at this
    exact this
theorem far_mid {n : Int} (h0 : 0 ≤ n) (hf : far k o ≤ 2 * n) : far k (mid k o) ≤ n := far_zmap (fun x y => (x + y) / 2) h0 fun q hq => by
  have := far_ge hq
  have h2 : absI (q.1 - q.2) ≤ 2 * n := by omega
  rw [absI_le] at *
  omega
theorem mid_symm (k o : List Int) : mid k o = mid o k := by
  apply List.ext_getElem?
  intro i
  unfold mid
  rw [List.getElem?_map, List.getElem?_map]
  cases h1 : k[i]? <;> cases h2 : o[i]? <;> simp [List.zip, List.getElem?_zipWith, h1, h2, Int.add_comm]
theorem mid_self (k : List Int) : mid k k = k := by
  apply List.ext_getElem?
  intro i
  unfold mid
  rw [List.getElem?_map]
  cases h1 : k[i]? with
  | none => simp [List.zip, List.getElem?_zipWith, h1]
  | some x => simp [List.zip, List.getElem?_zipWith, h1]; omega
theorem sp_need_copies_ok {m : Int} (m0 : 0 ≤ m) (m1 : m ≤ 100) (c : Cv) : F_need_copies [.int m] c = .ok .non c := by
  rw [sp_need_copies rfl]
  simp [inI, m0, m1]
theorem sp_C_common_copy_1 (hl : k.length ≤ 1000) (M f m : Va) (c : Cv) : C_common_copy_1 [.val M, .val (IT k), .val (IT o), .val f, .val m, .un, .un] c = .ok (IL (mid k o)) c := by
  have e := eLc_map (t := tT (tsC tN (tsC tN tsN))) (is := [5, 6]) (vs := [5, 6]) (tt := tYesS) (f := eB2 (eB2 (eVarB 5) (eVarB 6) vAdd) (eK (.int 2)) vDiv) (fi := iZip (eVar 1) (eVar 2)) (env := [.val M, .val (IT k), .val (IT o), .val f, .val m, .un, .un]) (c := c) (c1 := c) (fun q : Int × Int => .tup [.int q.1, .int q.2]) (fun q => .int ((q.1 + q.2) / 2)) (k.zip o)
    (by simp [iZip, zip_tup, zip_map, oSome, oNone, eSl, vSl, runF, env0, sSeq, sIf, sRet, sVal, sDrop, sPars, sUnp, sNext, sRetN, sRaise, mVal, mOwn, mNil, setE, eVar, eVarB, eK, eB1, eB2, eTup, eLst, aNil, aCons, bd_ok, bd_exn, sb_ok, sb_exn, tV, tAnd, tOr, tNot, eAnd, eOr, eNot, eIf, eChain, callS, List.map_cons, List.map_nil, List.length_cons, List.length_nil, List.length_map, List.replicate, List.cons_append, List.nil_append, List.getElem?_cons_zero, List.getElem?_cons_succ, List.getElem?_nil, Nat.reduceSub, Nat.reduceAdd, Nat.zero_add, List.set_cons_zero, List.set_cons_succ, Bool.not_true, Bool.not_false, if_true, if_false, Bool.false_eq_true, eq_int, ne_int, eq_bl, ne_bl, le_int, lt_int, ge_int, gt_int, sub_int, add_int, neg_int, abs_int]) (l24_of (by simp; omega)) (by simp [ownFree]) fun q hq => lcS_yes (t2 _ _) (by
      have := div_int (q.1 + q.2) 2 c (by decide) (by decide)
      simp [wipeE, this, oSome, oNone, eSl, vSl, runF, env0, sSeq, sIf, sRet, sVal, sDrop, sPars, sUnp, sNext, sRetN, sRaise, mVal, mOwn, mNil, setE, eVar, eVarB, eK, eB1, eB2, eTup, eLst, aNil, aCons, bd_ok, bd_exn, sb_ok, sb_exn, tV, tAnd, tOr, tNot, eAnd, eOr, eNot, eIf, eChain, callS, List.map_cons, List.map_nil, List.length_cons, List.length_nil, List.length_map, List.replicate, List.cons_append, List.nil_append, List.getElem?_cons_zero, List.getElem?_cons_succ, List.getElem?_nil, Nat.reduceSub, Nat.reduceAdd, Nat.zero_add, List.set_cons_zero, List.set_cons_succ, Bool.not_true, Bool.not_false, if_true, if_false, Bool.false_eq_true, eq_int, ne_int, eq_bl, ne_bl, le_int, lt_int, ge_int, gt_int, sub_int, add_int, neg_int, abs_int])
  rw [C_common_copy_1, e]
  simp [G.mid]
/-- the farther of two -/
def mx (a b : Int) : Int := if b > a then b else a
theorem mx_le {a b n : Int} : mx a b ≤ n ↔ a ≤ n ∧ b ≤ n := by unfold mx; split <;> omega
theorem sp_max2 (a b : Int) (c : Cv) : vMax2 (.int a) (.int b) c = .ok (.int (mx a b)) c := rfl
theorem sp_common_copy (g : GM p h s) (kk : Ky p h s k) (ko : Ky p h s o) (f0 : 0 ≤ f) (f9 : f ≤ 9) {m : Int} (m0 : 0 ≤ m) (m1 : m ≤ 100) (c : Cv) : F_common_copy [mkV p h s, IT k, IT o, .int f, .int m] c = .ok (if 2 * f * m < far k o then .non else IT (mid k o)) c := by
  have e1 := mul_int 2 f c (.inl (by decide))
  have e2 := mul_int (2 * f) m c (.inr (na1 100 (by omega) (by omega)))
  have e3 := sp_C_common_copy_1 (k := k) (o := o) (kk.l g) (mkV p h s) (.int f) (.int m) c
  by_cases hf : 2 * f * m < far k o
  · simp [F_common_copy, B_common_copy, sp_need_two_ok g kk ko f0 f9, sp_need_copies_ok m0 m1, sp_widest (kk.l g) (kk.zne ko g), e1, e2, hf, -List.map_cons, oSome, oNone, eSl, vSl, runF, env0, sSeq, sIf, sRet, sVal, sDrop, sPars, sUnp, sNext, sRetN, sRaise, mVal, mOwn, mNil, setE, eVar, eVarB, eK, eB1, eB2, eTup, eLst, aNil, aCons, bd_ok, bd_exn, sb_ok, sb_exn, tV, tAnd, tOr, tNot, eAnd, eOr, eNot, eIf, eChain, callS, List.map_cons, List.map_nil, List.length_cons, List.length_nil, List.length_map, List.replicate, List.cons_append, List.nil_append, List.getElem?_cons_zero, List.getElem?_cons_succ, List.getElem?_nil, Nat.reduceSub, Nat.reduceAdd, Nat.zero_add, List.set_cons_zero, List.set_cons_succ, Bool.not_true, Bool.not_false, if_true, if_false, Bool.false_eq_true, eq_int, ne_int, eq_bl, ne_bl, le_int, lt_int, ge_int, gt_int, sub_int, add_int, neg_int, abs_int]
  · simp [F_common_copy, B_common_copy, sp_need_two_ok g kk ko f0 f9, sp_need_copies_ok m0 m1, sp_widest (kk.l g) (kk.zne ko g), e1, e2, e3, hf, vTup, -List.map_cons, oSome, oNone, eSl, vSl, runF, env0, sSeq, sIf, sRet, sVal, sDrop, sPars, sUnp, sNext, sRetN, sRaise, mVal, mOwn, mNil, setE, eVar, eVarB, eK, eB1, eB2, eTup, eLst, aNil, aCons, bd_ok, bd_exn, sb_ok, sb_exn, tV, tAnd, tOr, tNot, eAnd, eOr, eNot, eIf, eChain, callS, List.map_cons, List.map_nil, List.length_cons, List.length_nil, List.length_map, List.replicate, List.cons_append, List.nil_append, List.getElem?_cons_zero, List.getElem?_cons_succ, List.getElem?_nil, Nat.reduceSub, Nat.reduceAdd, Nat.zero_add, List.set_cons_zero, List.set_cons_succ, Bool.not_true, Bool.not_false, if_true, if_false, Bool.false_eq_true, eq_int, ne_int, eq_bl, ne_bl, le_int, lt_int, ge_int, gt_int, sub_int, add_int, neg_int, abs_int]
def comOk (p h s : Int) (k o : List Int) (n : Int) (v : Va) : Bool := fitsK p h s v && decide (mx (far k (keyOf v)) (far o (keyOf v)) ≤ n)
theorem keyIT (k : List Int) : keyOf (IT k) = k := ofInts_map k
theorem sp_is_common_copy (g : GM p h s) (kk : Ky p h s k) (ko : Ky p h s o) (f0 : 0 ≤ f) (f9 : f ≤ 9) {m : Int} (m0 : 0 ≤ m) (m1 : m ≤ 100) {v : Va} (hv : pl v = true) (c : Cv) : F_is_common_copy [mkV p h s, IT k, IT o, .int f, .int m, v] c = .ok (.bl (comOk p h s k o (f * m) v)) c := by
  have e2 := mul_int f m c (.inr (na1 100 (by omega) (by omega)))
  unfold comOk
  cases hk : fitsK p h s v with
  | false => simp [F_is_common_copy, B_is_common_copy, sp_need_two_ok g kk ko f0 f9, sp_need_copies_ok m0 m1, sp_fits_key g hv, hk, -List.map_cons, oSome, oNone, eSl, vSl, runF, env0, sSeq, sIf, sRet, sVal, sDrop, sPars, sUnp, sNext, sRetN, sRaise, mVal, mOwn, mNil, setE, eVar, eVarB, eK, eB1, eB2, eTup, eLst, aNil, aCons, bd_ok, bd_exn, sb_ok, sb_exn, tV, tAnd, tOr, tNot, eAnd, eOr, eNot, eIf, eChain, callS, List.map_cons, List.map_nil, List.length_cons, List.length_nil, List.length_map, List.replicate, List.cons_append, List.nil_append, List.getElem?_cons_zero, List.getElem?_cons_succ, List.getElem?_nil, Nat.reduceSub, Nat.reduceAdd, Nat.zero_add, List.set_cons_zero, List.set_cons_succ, Bool.not_true, Bool.not_false, if_true, if_false, Bool.false_eq_true, eq_int, ne_int, eq_bl, ne_bl, le_int, lt_int, ge_int, gt_int, sub_int, add_int, neg_int, abs_int]
  | true =>
    obtain ⟨ns, e, ky⟩ := fits_Ky hk
    subst e
    rw [keyIT]
    simp [F_is_common_copy, B_is_common_copy, sp_need_two_ok g kk ko f0 f9, sp_need_copies_ok m0 m1, sp_fits_key g hv, hk, sp_widest (kk.l g) (kk.zne ky g), sp_widest (ko.l g) (ko.zne ky g), sp_max2, e2, -List.map_cons, oSome, oNone, eSl, vSl, runF, env0, sSeq, sIf, sRet, sVal, sDrop, sPars, sUnp, sNext, sRetN, sRaise, mVal, mOwn, mNil, setE, eVar, eVarB, eK, eB1, eB2, eTup, eLst, aNil, aCons, bd_ok, bd_exn, sb_ok, sb_exn, tV, tAnd, tOr, tNot, eAnd, eOr, eNot, eIf, eChain, callS, List.map_cons, List.map_nil, List.length_cons, List.length_nil, List.length_map, List.replicate, List.cons_append, List.nil_append, List.getElem?_cons_zero, List.getElem?_cons_succ, List.getElem?_nil, Nat.reduceSub, Nat.reduceAdd, Nat.zero_add, List.set_cons_zero, List.set_cons_succ, Bool.not_true, Bool.not_false, if_true, if_false, Bool.false_eq_true, eq_int, ne_int, eq_bl, ne_bl, le_int, lt_int, ge_int, gt_int, sub_int, add_int, neg_int, abs_int]
end
end G

set_option Elab.async false
set_option linter.all false
set_option maxRecDepth 100000
set_option maxHeartbeats 4000000
namespace G
set_option autoImplicit false
open PySem PySem.Spec PyProof.Rows L2
/-! ### the right of copies -/
theorem wfs_app {n : Nat} : ∀ {xs ys : List Va}, wfs n (xs ++ ys) = (wfs n xs && wfs n ys)
  | [], ys => by simp [wfs]
  | x :: xs, ys => by rw [List.cons_append, wfs, wfs, wfs_app, Bool.and_assoc]
theorem wfs_sub {n : Nat} {xs ys : List Va} (h : wfs n ys = true) (hs : ∀ x ∈ xs, x ∈ ys) : wfs n xs = true := wfs_all fun d hd => wfs_mem h d (hs d hd)
theorem cutA_mem {α : Type} {xs : List α} {lo hi : Option Int} {x : α} (h : x ∈ cutA xs lo hi) : x ∈ xs := List.mem_of_mem_drop (List.mem_of_mem_take h)
theorem cutA_len {α : Type} (xs : List α) (lo hi : Option Int) : (cutA xs lo hi).length ≤ xs.length := by
  unfold cutA
  rw [List.length_take, List.length_drop]
  omega
theorem stepA_mem {α : Type} {xs : List α} {lo hi : Option Int} {st : Int} {x : α} (h : x ∈ stepA xs lo hi st) : x ∈ xs := by
  unfold stepA at h
  obtain ⟨k, _, e⟩ := List.mem_filterMap.mp h
  exact List.mem_of_getElem? e
theorem stepA_len {α : Type} (xs : List α) (h : xs.length ≤ 1000) : (stepA xs none none (-1)).length ≤ L24 := by
  apply l24_of
  unfold stepA
  refine Nat.le_trans (List.length_filterMap_le _ _) ?_
  rw [List.length_range]
  simp only [Builtin.Slice.sliceAdjust, Builtin.Slice.slicePlaces]
  simp
  split <;> omega
theorem st_rev {L : List Va} (h : L.length ≤ 1000) (c : Cv) : vSt (.tup L) none none (-1) c = .ok (.tup (stepA L none none (-1))) c := if_pos ⟨by decide, by decide, stepA_len L h⟩
theorem wfs_rep {n : Nat} {k : Int} {xs : List Va} (h : wfs n xs = true) : wfs n (repL k xs) = true := wfs_all fun d hd => by
  unfold repL at hd
  obtain ⟨l, h1, h2⟩ := List.mem_flatten.mp hd
  rw [List.eq_of_mem_replicate h1] at h2
  exact wfs_mem h d h2
theorem mulW_tup (x : Va) {k : Int} (h1 : 1 ≤ k) (h2 : k ≤ 1000) (c : Cv) : vMulW (.tup [x]) (.int k) c = .ok (.tup (repL k [x])) c := by
  simp only [vMulW]
  by_cases e : k = 1
  · rw [if_pos e, e]; simp [repL]
  · rw [if_neg e, if_neg (by omega)]
    simp only [vMul]
    rw [if_pos]
    simp
    omega
theorem repL_len {k : Int} (x : Va) : (repL k [x]).length = k.toNat := by simp [repL]
theorem sl_tup (L : List Va) (lo hi : Option Int) (c : Cv) : vSl (.tup L) lo hi c = .ok (.tup (cutA L lo hi)) c := rfl
theorem lst_of (L : List Va) (c : Cv) : vLstOf (.tup L) c = .ok (.lst L) c := rfl
theorem len_tup (L : List Va) (c : Cv) : vLen (.tup L) c = .ok (.int (L.length : Int)) c := rfl
section
variable {p h s f : Int} {k o : List Int}
theorem rt_loop (g : GM p h s) (kk : Ky p h s k) (ko : Ky p h s o) (f0 : 0 ≤ f) (f9 : f ≤ 9) (s5 s6 s7 s8 s9 s10 s11 s12 : Sl) (c : Cv) : ∀ (vs : List Va) (s13 : Sl), (∀ v ∈ vs, wf 32 v = true) → ∃ s', forL tN [13] L__law_right_1 vs [.val .cup, .val (mkV p h s), .val (IT k), .val (IT o), .val (.int f), s5, s6, s7, s8, s9, s10, s11, s12, s13] c = .nx [.val .cup, .val (mkV p h s), .val (IT k), .val (IT o), .val (.int f), s5, s6, s7, s8, s9, s10, s11, s12, s'] c
  | [], s13, _ => ⟨s13, rfl⟩
  | v :: vs, s13, hw => by
    obtain ⟨s', e⟩ := rt_loop g kk ko f0 f9 s5 s6 s7 s8 s9 s10 s11 s12 c vs (.val v) fun x hx => hw x (by simp [hx])
    refine ⟨s', ?_⟩
    have w := hw v (by simp)
    have q1 := sp_is_copy_row g kk ko f0 f9 (wf_pl 32 v w) c
    have q2 := sp__law_is_row (f := f) (k := k) (o := o) g w c
    have q3 := sp_same_atm (d := .bl (rowOk p h s k o f v)) rfl 7 c
    have e1 : L__law_right_1 [.val .cup, .val (mkV p h s), .val (IT k), .val (IT o), .val (.int f), s5, s6, s7, s8, s9, s10, s11, s12, .val v] c = .nx [.val .cup, .val (mkV p h s), .val (IT k), .val (IT o), .val (.int f), s5, s6, s7, s8, s9, s10, s11, s12, .val v] c := by
      simp [L__law_right_1, q1, q2, q3, -List.map_cons, oSome, oNone, eSl, vSl, runF, env0, sSeq, sIf, sRet, sVal, sDrop, sPars, sUnp, sNext, sRetN, sRaise, mVal, mOwn, mNil, setE, eVar, eVarB, eK, eB1, eB2, eTup, eLst, aNil, aCons, bd_ok, bd_exn, sb_ok, sb_exn, tV, tAnd, tOr, tNot, eAnd, eOr, eNot, eIf, eChain, callS, List.length_cons, List.length_nil, List.length_map, List.replicate, List.cons_append, List.nil_append, List.getElem?_cons_zero, List.getElem?_cons_succ, List.getElem?_nil, Nat.reduceSub, Nat.reduceAdd, Nat.zero_add, List.set_cons_zero, List.set_cons_succ, Bool.not_true, Bool.not_false, if_true, if_false, Bool.false_eq_true, eq_int, ne_int, eq_bl, ne_bl, le_int, lt_int, ge_int, gt_int, sub_int, add_int, neg_int, abs_int]
    rw [forL]
    show (match L__law_right_1 [.val .cup, .val (mkV p h s), .val (IT k), .val (IT o), .val (.int f), s5, s6, s7, s8, s9, s10, s11, s12, .val v] c with
      | .nx e c1 => _
      | .ct e c1 => _
      | .bk e c1 => _
      | .rt d c1 => _
      | .exn x e c1 => _
      | .stk => _) = _
    rw [e1]
    exact e
end
end G

set_option Elab.async false
set_option linter.all false
set_option maxRecDepth 100000
set_option maxHeartbeats 8000000
namespace G
set_option autoImplicit false
open PySem PySem.Spec PyProof.Rows L2
section
variable {p h s f : Int} {k o : List Int}
theorem cpf_div {d : Int} (f0 : 0 < f) (f9 : f ≤ 9) : -(-d / f) = (d + f - 1) / f := by
  have : f = 1 ∨ f = 2 ∨ f = 3 ∨ f = 4 ∨ f = 5 ∨ f = 6 ∨ f = 7 ∨ f = 8 ∨ f = 9 := by omega
  rcases this with h | h | h | h | h | h | h | h | h <;> subst h <;> omega
theorem cpf_cases (g : GM p h s) (kk : Ky p h s k) (ko : Ky p h s o) (f0 : 0 ≤ f) (f9 : f ≤ 9) : (far k o ≠ 0 ∧ f = 0 ∧ cpf (far k o) f = .non) ∨ ∃ m : Nat, cpf (far k o) f = .int (m : Int) ∧ m ≤ 9 ∧ far k o ≤ f * (m : Int) := by
  by_cases h0 : far k o = 0
  · exact .inr ⟨0, by simp [cpf, h0], by omega, by simp [h0]⟩
  · by_cases h1 : 0 < f
    · obtain ⟨m, a, b, c, _⟩ := cpf_nat g kk ko h1 f9
      exact .inr ⟨m, a, b, c⟩
    · refine .inl ⟨h0, by omega, ?_⟩
      unfold cpf
      rw [if_neg h0, if_neg (by omega)]
def dueE : SE := eIf (tV (eB2 (eVarB 5) (eK (.int 0)) vEq)) (eK (.int 0)) (eIf (tV (eB2 (eVarB 4) (eK (.int 0)) vEq)) (eK .non) (eB1 (eB2 (eB1 (eVarB 5) vNeg) (eVarB 4) vDiv) vNeg))
theorem sp_due (f0 : 0 ≤ f) (f9 : f ≤ 9) {d : Int} {env : Ev} (h5 : env[5]? = some (.val (.int d))) (h4 : env[4]? = some (.val (.int f))) (c : Cv) : dueE env c = .ok (cpf d f) c := by
  unfold cpf
  by_cases hd : d = 0
  · simp [dueE, h5, h4, hd, oSome, oNone, eSl, vSl, runF, env0, sSeq, sIf, sRet, sVal, sDrop, sPars, sUnp, sNext, sRetN, sRaise, mVal, mOwn, mNil, setE, eVar, eVarB, eK, eB1, eB2, eTup, eLst, aNil, aCons, bd_ok, bd_exn, sb_ok, sb_exn, tV, tAnd, tOr, tNot, eAnd, eOr, eNot, eIf, eChain, callS, List.map_cons, List.map_nil, List.length_cons, List.length_nil, List.length_map, List.replicate, List.cons_append, List.nil_append, List.getElem?_cons_zero, List.getElem?_cons_succ, List.getElem?_nil, Nat.reduceSub, Nat.reduceAdd, Nat.zero_add, List.set_cons_zero, List.set_cons_succ, Bool.not_true, Bool.not_false, if_true, if_false, Bool.false_eq_true, eq_int, ne_int, eq_bl, ne_bl, le_int, lt_int, ge_int, gt_int, sub_int, add_int, neg_int, abs_int]
  · by_cases hf : 0 < f
    · have e := div_int (-d) f c hf (by omega)
      have hf2 : ¬ f = 0 := by omega
      simp [dueE, h5, h4, hd, hf, hf2, e, cpf_div hf f9, oSome, oNone, eSl, vSl, runF, env0, sSeq, sIf, sRet, sVal, sDrop, sPars, sUnp, sNext, sRetN, sRaise, mVal, mOwn, mNil, setE, eVar, eVarB, eK, eB1, eB2, eTup, eLst, aNil, aCons, bd_ok, bd_exn, sb_ok, sb_exn, tV, tAnd, tOr, tNot, eAnd, eOr, eNot, eIf, eChain, callS, List.map_cons, List.map_nil, List.length_cons, List.length_nil, List.length_map, List.replicate, List.cons_append, List.nil_append, List.getElem?_cons_zero, List.getElem?_cons_succ, List.getElem?_nil, Nat.reduceSub, Nat.reduceAdd, Nat.zero_add, List.set_cons_zero, List.set_cons_succ, Bool.not_true, Bool.not_false, if_true, if_false, Bool.false_eq_true, eq_int, ne_int, eq_bl, ne_bl, le_int, lt_int, ge_int, gt_int, sub_int, add_int, neg_int, abs_int]
    · have hf2 : f = 0 := by omega
      simp [dueE, h5, h4, hd, hf2, oSome, oNone, eSl, vSl, runF, env0, sSeq, sIf, sRet, sVal, sDrop, sPars, sUnp, sNext, sRetN, sRaise, mVal, mOwn, mNil, setE, eVar, eVarB, eK, eB1, eB2, eTup, eLst, aNil, aCons, bd_ok, bd_exn, sb_ok, sb_exn, tV, tAnd, tOr, tNot, eAnd, eOr, eNot, eIf, eChain, callS, List.map_cons, List.map_nil, List.length_cons, List.length_nil, List.length_map, List.replicate, List.cons_append, List.nil_append, List.getElem?_cons_zero, List.getElem?_cons_succ, List.getElem?_nil, Nat.reduceSub, Nat.reduceAdd, Nat.zero_add, List.set_cons_zero, List.set_cons_succ, Bool.not_true, Bool.not_false, if_true, if_false, Bool.false_eq_true, eq_int, ne_int, eq_bl, ne_bl, le_int, lt_int, ge_int, gt_int, sub_int, add_int, neg_int, abs_int]
theorem sp_C__law_right_1 (hl : k.length ≤ 1000) {m : Nat} (hm : m ≤ 900) (f9 : f.natAbs < 18446744073709551616) (M K : Va) (s5 s7 s8 s10 s11 s12 s13 : Sl) (c : Cv) : C__law_right_1 [.val K, .val M, .val (IT k), .val (IT o), .val (.int f), s5, .val (.int (m : Int)), s7, s8, .un, s10, s11, s12, s13] c = .ok (.lst (rowsV k o f (m + 1))) c := by
  have e := eLc_map (t := tN) (is := [9]) (vs := [9]) (tt := tYesS) (f := callS F__law_towards (aCons (eVar 2) (aCons (eVar 3) (aCons (eB2 (eVarB 4) (eVarB 9) vMulW) aNil)))) (fi := iRange1 (eB2 (eVarB 6) (eK (.int 1)) vAdd)) (env := [.val K, .val M, .val (IT k), .val (IT o), .val (.int f), s5, .val (.int (m : Int)), s7, s8, .un, s10, s11, s12, s13]) (c := c) (c1 := c) (fun (t : Nat) => .int (t : Int)) (fun (t : Nat) => IT (tow k o (f * t))) (List.range (m + 1))
    (rng (a := (m : Int) + 1) (m := m + 1) (by omega) (by omega) _ _ _ (by simp [oSome, oNone, eSl, vSl, runF, env0, sSeq, sIf, sRet, sVal, sDrop, sPars, sUnp, sNext, sRetN, sRaise, mVal, mOwn, mNil, setE, eVar, eVarB, eK, eB1, eB2, eTup, eLst, aNil, aCons, bd_ok, bd_exn, sb_ok, sb_exn, tV, tAnd, tOr, tNot, eAnd, eOr, eNot, eIf, eChain, callS, List.map_cons, List.map_nil, List.length_cons, List.length_nil, List.length_map, List.replicate, List.cons_append, List.nil_append, List.getElem?_cons_zero, List.getElem?_cons_succ, List.getElem?_nil, Nat.reduceSub, Nat.reduceAdd, Nat.zero_add, List.set_cons_zero, List.set_cons_succ, Bool.not_true, Bool.not_false, if_true, if_false, Bool.false_eq_true, eq_int, ne_int, eq_bl, ne_bl, le_int, lt_int, ge_int, gt_int, sub_int, add_int, neg_int, abs_int])) (l24_of (by simp; omega)) (by simp [ownFree]) fun t ht => lcS_yes rfl (by
        have := mul_int f (t : Int) c (.inl f9)
        simp [wipeE, this, sp__law_towards hl, oSome, oNone, eSl, vSl, runF, env0, sSeq, sIf, sRet, sVal, sDrop, sPars, sUnp, sNext, sRetN, sRaise, mVal, mOwn, mNil, setE, eVar, eVarB, eK, eB1, eB2, eTup, eLst, aNil, aCons, bd_ok, bd_exn, sb_ok, sb_exn, tV, tAnd, tOr, tNot, eAnd, eOr, eNot, eIf, eChain, callS, List.map_cons, List.map_nil, List.length_cons, List.length_nil, List.length_map, List.replicate, List.cons_append, List.nil_append, List.getElem?_cons_zero, List.getElem?_cons_succ, List.getElem?_nil, Nat.reduceSub, Nat.reduceAdd, Nat.zero_add, List.set_cons_zero, List.set_cons_succ, Bool.not_true, Bool.not_false, if_true, if_false, Bool.false_eq_true, eq_int, ne_int, eq_bl, ne_bl, le_int, lt_int, ge_int, gt_int, sub_int, add_int, neg_int, abs_int])
  rw [C__law_right_1, e, rowsV]
def vls1 (L T : List Va) (x od : Va) (r : Nat) : List Va := [.tup L, .tup T, .tup (stepA L none none (-1)), .tup (cutA L (some 1) none), .tup (cutA L none (some (-1))), .tup (L ++ cutA L (some (-1)) none), .tup (cutA L none (some (r : Int)) ++ [x] ++ cutA L (some (r : Int)) none), .tup (cutA L none (some (r : Int)) ++ [od] ++ cutA L (some (r : Int)) none), .lst L]
def vls2 (L xs : List Va) (r : Nat) : List Va := [.tup (cutA L none (some (r : Int)) ++ [.lst xs] ++ cutA L (some ((r : Int) + 1)) none), .tup (cutA L none (some (r : Int)) ++ [.non] ++ cutA L (some ((r : Int) + 1)) none), .tup (cutA L none (some (r : Int)) ++ [.tup (cutA xs (some 1) none)] ++ cutA L (some ((r : Int) + 1)) none)]
def vls3 (L : List Va) (K : Va) (h p m : Int) (r : Nat) : List Va := [.non, .tup [], K, .tup (repL 101 [K] ++ cutA L (some 1) none), .tup (repL (101 - m) [K] ++ cutA L (some 1) none), .tup (cutA L none (some (r : Int)) ++ [.tup (repL p [.int h])] ++ cutA L (some (r : Int)) none)]
theorem vals_wf {p h : Int} {L xs ks : List Va} {od : Va} {r : Nat} {m : Int} (hL : wfs 31 L = true) (hx : wfs 29 xs = true) (ho : wf 31 od = true) (hk : wfs 29 ks = true) {v : Va} (hv : v ∈ vls1 L L (.tup xs) od r ++ vls2 L xs r ++ vls3 L (.tup ks) h p m r) : wf 32 v = true := by
  have cL : ∀ lo hi, wfs 31 (cutA L lo hi) = true := fun lo hi => wfs_sub hL fun x hx => cutA_mem hx
  have cs : ∀ lo hi st, wfs 31 (stepA L lo hi st) = true := fun lo hi st => wfs_sub hL fun x hx => stepA_mem hx
  have x30 := wfs_up 29 30 xs (by omega) hx
  have k30 := wfs_up 29 30 ks (by omega) hk
  have k31 := wfs_up 29 31 ks (by omega) hk
  have wk : wf 31 (.tup ks) = true := by simpa [wf] using k30
  have wx : wf 31 (.tup xs) = true := by simpa [wf] using x30
  have wxl : wf 31 (.lst xs) = true := by simpa [wf] using x30
  have wxc : wf 31 (.tup (cutA xs (some 1) none)) = true := by
    simp only [wf]
    exact wfs_sub x30 fun x hx => cutA_mem hx
  have w1 : ∀ {n : Nat} {x : Va}, wf n x = true → wfs n [x] = true := fun hx => by simp [wfs, hx]
  have wh : wf 31 (.tup (repL p [.int h])) = true := by
    simp only [wf]
    exact wfs_rep (w1 (by simp [wf]))
  have wn : wf 31 .non = true := by simp [wf]
  have wr : ∀ j, wfs 31 (repL j [.tup ks]) = true := fun j => wfs_rep (w1 wk)
  have t : ∀ {ds : List Va}, wfs 31 ds = true → wf 32 (.tup ds) = true := fun hd => by simpa [wf] using hd
  have t2 : ∀ {ds : List Va}, wfs 31 ds = true → wf 32 (.lst ds) = true := fun hd => by simpa [wf] using hd
  have a : ∀ {xs ys : List Va}, wfs 31 xs = true → wfs 31 ys = true → wfs 31 (xs ++ ys) = true := fun hx hy => by rw [wfs_app, hx, hy]; rfl
  have wall : ∀ l : List Va, (∀ i, (hi : i < l.length) → wf 32 l[i] = true) → ∀ v ∈ l, wf 32 v = true := fun l hl v hv => by
    obtain ⟨i, hi, e⟩ := List.mem_iff_getElem.mp hv
    rw [← e]; exact hl i hi
  simp only [vls1, vls2, vls3, List.cons_append, List.nil_append, List.mem_cons, List.not_mem_nil, or_false] at hv
  rcases hv with e | e | e | e | e | e | e | e | e | e | e | e | e | e | e | e | e | e <;> subst e
  · exact t hL
  · exact t hL
  · exact t (cs _ _ _)
  · exact t (cL _ _)
  · exact t (cL _ _)
  · exact t (a hL (cL _ _))
  · exact t (a (a (cL _ _) (w1 wx)) (cL _ _))
  · exact t (a (a (cL _ _) (w1 ho)) (cL _ _))
  · exact t2 hL
  · exact t (a (a (cL _ _) (w1 wxl)) (cL _ _))
  · exact t (a (a (cL _ _) (w1 wn)) (cL _ _))
  · exact t (a (a (cL _ _) (w1 wxc)) (cL _ _))
  · simp [wf]
  · simp [wf, wfs]
  · exact t k31
  · exact t (a (wr _) (cL _ _))
  · exact t (a (wr _) (cL _ _))
  · exact t (a (a (cL _ _) (w1 wh)) (cL _ _))
end
end G

set_option Elab.async false
set_option linter.all false
set_option maxRecDepth 100000
set_option maxHeartbeats 8000000
namespace G
set_option autoImplicit false
open PySem PySem.Spec PyProof.Rows L2
def vlE1 : SE := (eLst (aCons (eVar 8) (aCons (eVar 7) (aCons (eSt (eVarB 8) oNone oNone (oSome (eB1 (eK (.int 1)) vNeg))) (aCons (eSl (eVarB 8) (oSome (eK (.int 1))) oNone vSl) (aCons (eSl (eVarB 8) oNone (oSome (eB1 (eK (.int 1)) vNeg)) vSl) (aCons (eB2 (eVarB 8) (eSl (eVarB 8) (oSome (eB1 (eK (.int 1)) vNeg)) oNone vSl) vAdd) (aCons (eB2 (eB2 (eSl (eVarB 8) oNone (oSome (eVar 10)) vSl) (eTup (aCons (eB2 (eVarB 8) (eVarB 10) vIx) aNil)) vAdd) (eSl (eVarB 8) (oSome (eVar 10)) oNone vSl) vAdd) (aCons (eB2 (eB2 (eSl (eVarB 8) oNone (oSome (eVar 10)) vSl) (eTup (aCons (eVar 11) aNil)) vAdd) (eSl (eVarB 8) (oSome (eVar 10)) oNone vSl) vAdd) (aCons (eB1 (eVarB 8) vLstOf) aNil))))))))))
def vlE2 : SE := (eLst (aCons (eB2 (eB2 (eSl (eVarB 8) oNone (oSome (eVar 10)) vSl) (eTup (aCons (eB1 (eB2 (eVarB 8) (eVarB 10) vIx) vLstOf) aNil)) vAdd) (eSl (eVarB 8) (oSome (eB2 (eVarB 10) (eK (.int 1)) vAdd)) oNone vSl) vAdd) (aCons (eB2 (eB2 (eSl (eVarB 8) oNone (oSome (eVar 10)) vSl) (eTup (aCons (eK .non) aNil)) vAdd) (eSl (eVarB 8) (oSome (eB2 (eVarB 10) (eK (.int 1)) vAdd)) oNone vSl) vAdd) (aCons (eB2 (eB2 (eSl (eVarB 8) oNone (oSome (eVar 10)) vSl) (eTup (aCons (eSl (eB2 (eVarB 8) (eVarB 10) vIx) (oSome (eK (.int 1))) oNone vSl) aNil)) vAdd) (eSl (eVarB 8) (oSome (eB2 (eVarB 10) (eK (.int 1)) vAdd)) oNone vSl) vAdd) aNil))))
def vlE3 : SE := (eLst (aCons (eK .non) (aCons (eTup aNil) (aCons (eVar 2) (aCons (eB2 (eB2 (eTup (aCons (eVar 2) aNil)) (eK (.int 101)) vMulW) (eSl (eVarB 8) (oSome (eK (.int 1))) oNone vSl) vAdd) (aCons (eB2 (eB2 (eTup (aCons (eVar 2) aNil)) (eB2 (eK (.int 101)) (eVarB 6) vSub) vMulW) (eSl (eVarB 8) (oSome (eK (.int 1))) oNone vSl) vAdd) (aCons (eB2 (eB2 (eSl (eVarB 8) oNone (oSome (eVar 10)) vSl) (eTup (aCons (eB2 (eTup (aCons (eB2 (eVarB 1) (eK (.int 1)) vIx) aNil)) (eB2 (eVarB 1) (eK (.int 0)) vIx) vMulW) aNil)) vAdd) (eSl (eVarB 8) (oSome (eVar 10)) oNone vSl) vAdd) aNil)))))))
theorem B__law_right_eq : B__law_right = (sSeq (sVal 5 (callS F__law_far (aCons (eVar 2) (aCons (eVar 3) aNil)))) (sSeq (sVal 6 dueE) (sSeq (sVal 7 (callS F_copy_row (aCons (eVar 1) (aCons (eVar 2) (aCons (eVar 3) (aCons (eVar 4) aNil)))))) (sSeq (sIf (tNot (tV (callS (F__law_same 8) (aCons (eTup (aCons (callS F_copies_needed (aCons (eVar 1) (aCons (eVar 2) (aCons (eVar 3) (aCons (eVar 4) aNil))))) (aCons (callS F_copies_needed (aCons (eVar 1) (aCons (eVar 3) (aCons (eVar 2) (aCons (eVar 4) aNil))))) aNil))) (aCons (eTup (aCons (eVar 6) (aCons (eVar 6) aNil))) aNil))))) (sRet (eK (.bl false))) sNext) (sSeq (sIf (tOr (tV (eB2 (eVarB 6) (eK .non) vIs)) (tV (eB2 (eVarB 6) (eK (.int 100)) vGt))) (sRet (eIf (tV (eB2 (eVarB 6) (eK .non) vIs)) (eB2 (eVarB 7) (eK .non) vIs) (eK (.bl true)))) sNext) (sSeq (sVal 8 (eB1 C__law_right_1 vTup)) (sSeq (sIf (tOr (tNot (tV (callS F__law_is_row (aCons (eVar 1) (aCons (eVar 2) (aCons (eVar 3) (aCons (eVar 4) (aCons (eVar 8) aNil)))))))) (tOr (tNot (tV (callS F__law_is_row (aCons (eVar 1) (aCons (eVar 2) (aCons (eVar 3) (aCons (eVar 4) (aCons (eVar 7) aNil)))))))) (tV (eB2 (eB1 (eVarB 7) vLen) (eB2 (eVarB 6) (eK (.int 1)) vAdd) vNe)))) (sRet (eK (.bl false))) sNext) (sSeq (sVal 10 (callS F__law_roll (aCons (eVar 0) (aCons (eB1 (eVarB 8) vLen) aNil)))) (sSeq (sVal 11 (callS F__law_key (aCons (eVar 0) (aCons (eVar 1) aNil)))) (sSeq (sVal 12 vlE1) (sSeq (sVal 12 (eB2 (eVarB 12) vlE2 vAdd)) (sSeq (sVal 12 (eB2 (eVarB 12) vlE3 vAdd)) (sSeq (sFor (iVal (eVar 12)) tN [13] L__law_right_1) (sRet (eK (.bl true)))))))))))))))) := rfl
section
variable {p h s f : Int} {k o : List Int}
theorem rowsV_len (m : Nat) : (rowsV k o f m).length = m := by simp [rowsV]
theorem rowsV_wf (m : Nat) : wfs 31 (rowsV k o f m) = true := wfs_all fun d hd => by
  obtain ⟨t, _, rfl⟩ := List.mem_map.mp hd
  show wf 31 (IT _) = true
  simp [wf, wfs_ints]
theorem sp__law_right_none (g : GM p h s) (kk : Ky p h s k) (ko : Ky p h s o) (f0 : 0 ≤ f) (f9 : f ≤ 9) (hn : cpf (far k o) f = .non) (c : Cv) : F__law_right [.cup, mkV p h s, IT k, IT o, .int f] c = .ok (.bl true) c := by
  have e1 := sp__law_far (kk.l g) (kk.zne ko g) c
  have e2 := sp_due f0 f9 (d := far k o) (env := [.val .cup, .val (mkV p h s), .val (IT k), .val (IT o), .val (.int f), .val (.int (far k o)), .un, .un, .un, .un, .un, .un, .un, .un]) rfl rfl c
  rw [hn] at e2
  have e3 := sp_copy_row_no g kk ko f0 f9 c hn
  have e4 := sp_copies_needed g kk ko f0 f9 c
  have e5 := sp_copies_needed g ko kk f0 f9 c
  rw [← far_symm kk ko g] at e5
  rw [hn] at e4 e5
  have e6 := sp_same_tup (ds := [.non, .non]) (by simp [atm]) (by simp) 6 c
  simp [F__law_right, B__law_right_eq, e1, e2, e3, e4, e5, e6, le24, vIs, oSome, oNone, eSl, vSl, runF, env0, sSeq, sIf, sRet, sVal, sDrop, sPars, sUnp, sNext, sRetN, sRaise, mVal, mOwn, mNil, setE, eVar, eVarB, eK, eB1, eB2, eTup, eLst, aNil, aCons, bd_ok, bd_exn, sb_ok, sb_exn, tV, tAnd, tOr, tNot, eAnd, eOr, eNot, eIf, eChain, callS, List.map_cons, List.map_nil, List.length_cons, List.length_nil, List.length_map, List.replicate, List.cons_append, List.nil_append, List.getElem?_cons_zero, List.getElem?_cons_succ, List.getElem?_nil, Nat.reduceSub, Nat.reduceAdd, Nat.zero_add, List.set_cons_zero, List.set_cons_succ, Bool.not_true, Bool.not_false, if_true, if_false, Bool.false_eq_true, eq_int, ne_int, eq_bl, ne_bl, le_int, lt_int, ge_int, gt_int, sub_int, add_int, neg_int, abs_int]
theorem sp__law_right (g : GM p h s) (kk : Ky p h s k) (ko : Ky p h s o) (f0 : 0 ≤ f) (f9 : f ≤ 9) {c : Cv} (hc : CupOk c) : ∃ c', F__law_right [.cup, mkV p h s, IT k, IT o, .int f] c = .ok (.bl true) c' ∧ CupOk c' := by
  rcases cpf_cases g kk ko f0 f9 with ⟨_, _, hn⟩ | ⟨m, hm, m9, hf⟩
  · exact ⟨c, sp__law_right_none g kk ko f0 f9 hn c, hc⟩
  have e1 := sp__law_far (kk.l g) (kk.zne ko g) c
  have e2 := sp_due f0 f9 (d := far k o) (env := [.val .cup, .val (mkV p h s), .val (IT k), .val (IT o), .val (.int f), .val (.int (far k o)), .un, .un, .un, .un, .un, .un, .un, .un]) rfl rfl c
  rw [hm] at e2
  have e3 := sp_copy_row g kk ko f0 f9 c (by omega) hm
  have e4 := sp_copies_needed g kk ko f0 f9 c
  have e5 := sp_copies_needed g ko kk f0 f9 c
  rw [← far_symm kk ko g] at e5
  rw [hm] at e4 e5
  have e6 := sp_same_tup (ds := [.int (m : Int), .int (m : Int)]) (by simp [atm]) (by simp) 6 c
  have e7 := sp_C__law_right_1 (o := o) (f := f) (kk.l g) (m := m) (by omega) (na64 f0 f9) (mkV p h s) .cup (.val (.int (far k o))) (.val (.tup (rowsV k o f (m + 1)))) .un .un .un .un .un c
  have hok := rowOk_own g kk ko f0 (m := m) (by omega) hf
  have e8 := sp__law_is_row (f := f) (k := k) (o := o) g (v := .tup (rowsV k o f (m + 1))) (by simpa [wf] using rowsV_wf (m + 1)) c
  rw [hok] at e8
  have hL := rowsV_len (k := k) (o := o) (f := f) (m + 1)
  have hW := rowsV_wf (k := k) (o := o) (f := f) (m + 1)
  obtain ⟨r, c1, e9, r0, r1, hc1⟩ := sp__law_roll hc (m := (m : Int) + 1) (by omega) (by omega)
  obtain ⟨ok, c2, e10, kok, hc2⟩ := sp__law_key g hc1
  obtain ⟨n, rfl⟩ := Int.eq_ofNat_of_zero_le r0
  have hn : n < (rowsV k o f (m + 1)).length := by omega
  obtain ⟨xs, hx⟩ : ∃ xs, (rowsV k o f (m + 1))[n]? = some (IT xs) := by
    refine ⟨tow k o (f * (n : Int)), ?_⟩
    unfold rowsV
    rw [List.getElem?_map, List.getElem?_range (by omega)]; rfl
  have i1 := fun c : Cv => show vIx (.tup (rowsV k o f (m + 1))) (.int (n : Int)) c = .ok (IT xs) c by simp only [vIx, at_get hx]
  generalize rowsV k o f (m + 1) = L at *
  have hlL : L.length ≤ 10 := by omega
  have l1 := len_tup L
  rw [hL] at l1
  have ad1 : ∀ c, vAdd (.tup L) (.tup (cutA L (some (-1)) none)) c = .ok (.tup (L ++ cutA L (some (-1)) none)) c := add_tup (by have := cutA_len L (some (-1)) none; omega)
  have ad2 : ∀ lo hi (x : Va) c, vAdd (.tup (cutA L lo hi)) (.tup [x]) c = .ok (.tup (cutA L lo hi ++ [x])) c := fun lo hi x c => add_tup (by have := cutA_len L lo hi; simp; omega) c
  have ad3 : ∀ lo hi lo2 hi2 (x : Va) c, vAdd (.tup (cutA L lo hi ++ [x])) (.tup (cutA L lo2 hi2)) c = .ok (.tup (cutA L lo hi ++ [x] ++ cutA L lo2 hi2)) c := fun lo hi lo2 hi2 x c => add_tup (by have := cutA_len L lo hi; have := cutA_len L lo2 hi2; simp; omega) c
  have ad4 : ∀ j : Int, j ≤ 101 → ∀ c, vAdd (.tup (repL j [IT k])) (.tup (cutA L (some 1) none)) c = .ok (.tup (repL j [IT k] ++ cutA L (some 1) none)) c := fun j hj c => add_tup (by have := cutA_len L (some 1) none; rw [repL_len]; omega) c
  have mw1 : ∀ c, vMulW (.tup [IT k]) (.int 101) c = .ok (.tup (repL 101 [IT k])) c := fun c => mulW_tup _ (by decide) (by decide) c
  have mw2 : ∀ c, vMulW (.tup [IT k]) (.int (101 - (m : Int))) c = .ok (.tup (repL (101 - (m : Int)) [IT k])) c := fun c => mulW_tup _ (by omega) (by omega) c
  have mw3 : ∀ c, vMulW (.tup [.int h]) (.int p) c = .ok (.tup (repL p [.int h])) c := fun c => mulW_tup _ g.p1 (by have := g.p8; omega) c
  have ad5 := ad4 101 (by decide)
  have ad6 := ad4 (101 - (m : Int)) (by omega)
  have xi := wfs_ints 28 xs
  have ki := wfs_ints 28 k
  have oi : wf 31 (IT ok) = true := by simp [wf, wfs_ints]
  obtain ⟨s', e11⟩ := rt_loop g kk ko f0 f9 (.val (.int (far k o))) (.val (.int (m : Int))) (.val (.tup L)) (.val (.tup L)) .un (.val (.int (n : Int))) (.val (IT ok)) (.val (.lst (vls1 L L (IT xs) (IT ok) n ++ vls2 L (xs.map .int) n ++ vls3 L (IT k) h p m n))) c2 (vls1 L L (IT xs) (IT ok) n ++ vls2 L (xs.map .int) n ++ vls3 L (IT k) h p m n) .un (fun v hv => vals_wf hW xi oi ki hv)
  refine ⟨c2, ?_, hc2⟩
  have st := st_rev (L := L) (by omega)
  have ne : ¬ (100 : Int) < (m : Int) := by omega
  have V1 : ∀ E : Ev, E[8]? = some (.val (.tup L)) → E[7]? = some (.val (.tup L)) → E[10]? = some (.val (.int (n : Int))) → E[11]? = some (.val (IT ok)) → vlE1 E c2 = .ok (.lst (vls1 L L (IT xs) (IT ok) n)) c2 := fun E h8 h7 h10 h11 => by
    simp [vlE1, h8, h7, h10, h11, i1, ad1, ad2, ad3, st, eSt, sl_tup, lst_of, le24, vls1, -List.append_assoc, oSome, oNone, eSl, vSl, runF, env0, sSeq, sIf, sRet, sVal, sDrop, sPars, sUnp, sNext, sRetN, sRaise, mVal, mOwn, mNil, setE, eVar, eVarB, eK, eB1, eB2, eTup, eLst, aNil, aCons, bd_ok, bd_exn, sb_ok, sb_exn, tV, tAnd, tOr, tNot, eAnd, eOr, eNot, eIf, eChain, callS, List.map_cons, List.map_nil, List.length_cons, List.length_nil, List.length_map, List.replicate, List.cons_append, List.nil_append, List.getElem?_cons_zero, List.getElem?_cons_succ, List.getElem?_nil, Nat.reduceSub, Nat.reduceAdd, Nat.zero_add, List.set_cons_zero, List.set_cons_succ, Bool.not_true, Bool.not_false, if_true, if_false, Bool.false_eq_true, eq_int, ne_int, eq_bl, ne_bl, le_int, lt_int, ge_int, gt_int, sub_int, add_int, neg_int, abs_int]
  have V2 : ∀ E : Ev, E[8]? = some (.val (.tup L)) → E[10]? = some (.val (.int (n : Int))) → vlE2 E c2 = .ok (.lst (vls2 L (xs.map .int) n)) c2 := fun E h8 h10 => by
    simp [vlE2, h8, h10, i1, ad1, ad2, ad3, st, eSt, sl_tup, lst_of, le24, vls2, -List.append_assoc, oSome, oNone, eSl, vSl, runF, env0, sSeq, sIf, sRet, sVal, sDrop, sPars, sUnp, sNext, sRetN, sRaise, mVal, mOwn, mNil, setE, eVar, eVarB, eK, eB1, eB2, eTup, eLst, aNil, aCons, bd_ok, bd_exn, sb_ok, sb_exn, tV, tAnd, tOr, tNot, eAnd, eOr, eNot, eIf, eChain, callS, List.map_cons, List.map_nil, List.length_cons, List.length_nil, List.length_map, List.replicate, List.cons_append, List.nil_append, List.getElem?_cons_zero, List.getElem?_cons_succ, List.getElem?_nil, Nat.reduceSub, Nat.reduceAdd, Nat.zero_add, List.set_cons_zero, List.set_cons_succ, Bool.not_true, Bool.not_false, if_true, if_false, Bool.false_eq_true, eq_int, ne_int, eq_bl, ne_bl, le_int, lt_int, ge_int, gt_int, sub_int, add_int, neg_int, abs_int]
  have V3 : ∀ E : Ev, E[8]? = some (.val (.tup L)) → E[10]? = some (.val (.int (n : Int))) → E[2]? = some (.val (IT k)) → E[6]? = some (.val (.int (m : Int))) → E[1]? = some (.val (mkV p h s)) → vlE3 E c2 = .ok (.lst (vls3 L (IT k) h p m n)) c2 := fun E h8 h10 h2 h6 h1 => by
    simp [vlE3, h8, h10, h2, h6, h1, i1, ad1, ad2, ad3, ad5, ad6, mw1, mw2, mw3, ix0, ix1, st, eSt, sl_tup, lst_of, le24, vls3, -List.append_assoc, oSome, oNone, eSl, vSl, runF, env0, sSeq, sIf, sRet, sVal, sDrop, sPars, sUnp, sNext, sRetN, sRaise, mVal, mOwn, mNil, setE, eVar, eVarB, eK, eB1, eB2, eTup, eLst, aNil, aCons, bd_ok, bd_exn, sb_ok, sb_exn, tV, tAnd, tOr, tNot, eAnd, eOr, eNot, eIf, eChain, callS, List.map_cons, List.map_nil, List.length_cons, List.length_nil, List.length_map, List.replicate, List.cons_append, List.nil_append, List.getElem?_cons_zero, List.getElem?_cons_succ, List.getElem?_nil, Nat.reduceSub, Nat.reduceAdd, Nat.zero_add, List.set_cons_zero, List.set_cons_succ, Bool.not_true, Bool.not_false, if_true, if_false, Bool.false_eq_true, eq_int, ne_int, eq_bl, ne_bl, le_int, lt_int, ge_int, gt_int, sub_int, add_int, neg_int, abs_int]
  have A1 : ∀ c, vAdd (.lst (vls1 L L (IT xs) (IT ok) n)) (.lst (vls2 L (xs.map .int) n)) c = .ok (.lst (vls1 L L (IT xs) (IT ok) n ++ vls2 L (xs.map .int) n)) c := add_lst (by simp [vls1, vls2])
  have A2 : ∀ c, vAdd (.lst (vls1 L L (IT xs) (IT ok) n ++ vls2 L (xs.map .int) n)) (.lst (vls3 L (IT k) h p m n)) c = .ok (.lst (vls1 L L (IT xs) (IT ok) n ++ vls2 L (xs.map .int) n ++ vls3 L (IT k) h p m n)) c := add_lst (by simp [vls1, vls2, vls3])
  generalize vls1 L L (IT xs) (IT ok) n ++ vls2 L (xs.map .int) n ++ vls3 L (IT k) h p m n = Q at *
  generalize vls1 L L (IT xs) (IT ok) n ++ vls2 L (xs.map .int) n = Q1 at *
  simp [F__law_right, B__law_right_eq, sFor, iVal, vIt, e1, e2, e3, e4, e5, e6, e7, e8, l1, e9, e10, ne, V1, V2, V3, A1, A2, e11, le24, vIs, vTup, oSome, oNone, eSl, vSl, runF, env0, sSeq, sIf, sRet, sVal, sDrop, sPars, sUnp, sNext, sRetN, sRaise, mVal, mOwn, mNil, setE, eVar, eVarB, eK, eB1, eB2, eTup, eLst, aNil, aCons, bd_ok, bd_exn, sb_ok, sb_exn, tV, tAnd, tOr, tNot, eAnd, eOr, eNot, eIf, eChain, callS, List.map_cons, List.map_nil, List.length_cons, List.length_nil, List.length_map, List.replicate, List.cons_append, List.nil_append, List.getElem?_cons_zero, List.getElem?_cons_succ, List.getElem?_nil, Nat.reduceSub, Nat.reduceAdd, Nat.zero_add, List.set_cons_zero, List.set_cons_succ, Bool.not_true, Bool.not_false, if_true, if_false, Bool.false_eq_true, eq_int, ne_int, eq_bl, ne_bl, le_int, lt_int, ge_int, gt_int, sub_int, add_int, neg_int, abs_int]
end
end G

set_option Elab.async false
set_option linter.all false
set_option maxRecDepth 100000
set_option maxHeartbeats 8000000
namespace G
set_option autoImplicit false
open PySem PySem.Spec PyProof.Rows L2
section
variable {p h s f : Int} {k o : List Int}
/-- the fewest for a common copy -/
def lea (d f : Int) : Int := if d = 0 then 0 else if f = 0 then 101 else -(-d / (2 * f))
theorem lea_lt {d m : Int} (f0 : 0 ≤ f) (f9 : f ≤ 9) (d0 : 0 ≤ d) (m0 : 0 ≤ m) (m1 : m ≤ 100) : decide (m < lea d f) = decide (2 * f * m < d) := by
  unfold lea
  by_cases hd : d = 0
  · rw [if_pos hd, hd]
    have : 0 ≤ 2 * f * m := Int.mul_nonneg (by omega) m0
    have a : ¬ m < 0 := by omega
    have b : ¬ 2 * f * m < 0 := by omega
    simp [a, b]
  · rw [if_neg hd]
    have : f = 0 ∨ f = 1 ∨ f = 2 ∨ f = 3 ∨ f = 4 ∨ f = 5 ∨ f = 6 ∨ f = 7 ∨ f = 8 ∨ f = 9 := by omega
    rw [decide_eq_decide]
    rcases this with h | h | h | h | h | h | h | h | h | h <;> subst h <;> simp <;> omega
def leaE : SE := eIf (tV (eB2 (eVarB 5) (eK (.int 0)) vEq)) (eK (.int 0)) (eIf (tV (eB2 (eVarB 4) (eK (.int 0)) vEq)) (eK (.int 101)) (eB1 (eB2 (eB1 (eVarB 5) vNeg) (eB2 (eK (.int 2)) (eVarB 4) vMulW) vDiv) vNeg))
theorem sp_lea (f0 : 0 ≤ f) (f9 : f ≤ 9) {d : Int} {env : Ev} (h5 : env[5]? = some (.val (.int d))) (h4 : env[4]? = some (.val (.int f))) (c : Cv) : leaE env c = .ok (.int (lea d f)) c := by
  unfold lea
  by_cases hd : d = 0
  · simp [leaE, h5, h4, hd, oSome, oNone, eSl, vSl, runF, env0, sSeq, sIf, sRet, sVal, sDrop, sPars, sUnp, sNext, sRetN, sRaise, mVal, mOwn, mNil, setE, eVar, eVarB, eK, eB1, eB2, eTup, eLst, aNil, aCons, bd_ok, bd_exn, sb_ok, sb_exn, tV, tAnd, tOr, tNot, eAnd, eOr, eNot, eIf, eChain, callS, List.map_cons, List.map_nil, List.length_cons, List.length_nil, List.length_map, List.replicate, List.cons_append, List.nil_append, List.getElem?_cons_zero, List.getElem?_cons_succ, List.getElem?_nil, Nat.reduceSub, Nat.reduceAdd, Nat.zero_add, List.set_cons_zero, List.set_cons_succ, Bool.not_true, Bool.not_false, if_true, if_false, Bool.false_eq_true, eq_int, ne_int, eq_bl, ne_bl, le_int, lt_int, ge_int, gt_int, sub_int, add_int, neg_int, abs_int]
  · by_cases hf : f = 0
    · simp [leaE, h5, h4, hd, hf, oSome, oNone, eSl, vSl, runF, env0, sSeq, sIf, sRet, sVal, sDrop, sPars, sUnp, sNext, sRetN, sRaise, mVal, mOwn, mNil, setE, eVar, eVarB, eK, eB1, eB2, eTup, eLst, aNil, aCons, bd_ok, bd_exn, sb_ok, sb_exn, tV, tAnd, tOr, tNot, eAnd, eOr, eNot, eIf, eChain, callS, List.map_cons, List.map_nil, List.length_cons, List.length_nil, List.length_map, List.replicate, List.cons_append, List.nil_append, List.getElem?_cons_zero, List.getElem?_cons_succ, List.getElem?_nil, Nat.reduceSub, Nat.reduceAdd, Nat.zero_add, List.set_cons_zero, List.set_cons_succ, Bool.not_true, Bool.not_false, if_true, if_false, Bool.false_eq_true, eq_int, ne_int, eq_bl, ne_bl, le_int, lt_int, ge_int, gt_int, sub_int, add_int, neg_int, abs_int]
    · have e := div_int (-d) (2 * f) c (by omega) (by omega)
      have e1 := mul_int 2 f c (.inl (by decide))
      simp [leaE, h5, h4, hd, hf, e, e1, oSome, oNone, eSl, vSl, runF, env0, sSeq, sIf, sRet, sVal, sDrop, sPars, sUnp, sNext, sRetN, sRaise, mVal, mOwn, mNil, setE, eVar, eVarB, eK, eB1, eB2, eTup, eLst, aNil, aCons, bd_ok, bd_exn, sb_ok, sb_exn, tV, tAnd, tOr, tNot, eAnd, eOr, eNot, eIf, eChain, callS, List.map_cons, List.map_nil, List.length_cons, List.length_nil, List.length_map, List.replicate, List.cons_append, List.nil_append, List.getElem?_cons_zero, List.getElem?_cons_succ, List.getElem?_nil, Nat.reduceSub, Nat.reduceAdd, Nat.zero_add, List.set_cons_zero, List.set_cons_succ, Bool.not_true, Bool.not_false, if_true, if_false, Bool.false_eq_true, eq_int, ne_int, eq_bl, ne_bl, le_int, lt_int, ge_int, gt_int, sub_int, add_int, neg_int, abs_int]
theorem cm_good (g : GM p h s) (kk : Ky p h s k) (ko : Ky p h s o) (f0 : 0 ≤ f) (f9 : f ≤ 9) {m : Int} (m0 : 0 ≤ m) (m1 : m ≤ 100) {v : Va} (hv : wf 31 v = true) (s5 s6 s8 s10 : Sl) (c : Cv) :
    L__law_common_right_1 [.val .cup, .val (mkV p h s), .val (IT k), .val (IT o), .val (.int f), s5, s6, .val (.int m), s8, .val v, s10] c = .nx [.val .cup, .val (mkV p h s), .val (IT k), .val (IT o), .val (.int f), s5, s6, .val (.int m), s8, .val v, .val (.bl (comOk p h s k o (f * m) v))] c := by
  have q1 := sp_is_common_copy g kk ko f0 f9 m0 m1 (wf_pl 31 v hv) c
  have q2 := sp__law_is_key g hv c
  have q3 := sp_same_atm (d := .bl (comOk p h s k o (f * m) v)) rfl 7 c
  have e2 := mul_int f m c (.inr (na1 100 (by omega) (by omega)))
  cases hk : fitsK p h s v with
  | false =>
    have : comOk p h s k o (f * m) v = false := by unfold comOk; rw [hk]; rfl
    rw [this] at q1 q3 ⊢
    rw [hk] at q2
    simp [L__law_common_right_1, q1, q2, q3, oSome, oNone, eSl, vSl, runF, env0, sSeq, sIf, sRet, sVal, sDrop, sPars, sUnp, sNext, sRetN, sRaise, mVal, mOwn, mNil, setE, eVar, eVarB, eK, eB1, eB2, eTup, eLst, aNil, aCons, bd_ok, bd_exn, sb_ok, sb_exn, tV, tAnd, tOr, tNot, eAnd, eOr, eNot, eIf, eChain, callS, List.map_cons, List.map_nil, List.length_cons, List.length_nil, List.length_map, List.replicate, List.cons_append, List.nil_append, List.getElem?_cons_zero, List.getElem?_cons_succ, List.getElem?_nil, Nat.reduceSub, Nat.reduceAdd, Nat.zero_add, List.set_cons_zero, List.set_cons_succ, Bool.not_true, Bool.not_false, if_true, if_false, Bool.false_eq_true, eq_int, ne_int, eq_bl, ne_bl, le_int, lt_int, ge_int, gt_int, sub_int, add_int, neg_int, abs_int]
  | true =>
    rw [hk] at q2
    obtain ⟨ns, e, ky⟩ := fits_Ky hk
    subst e
    have : comOk p h s k o (f * m) (IT ns) = decide (mx (far k ns) (far o ns) ≤ f * m) := by unfold comOk; rw [hk, keyIT]; rfl
    rw [this] at q1 q3 ⊢
    simp [L__law_common_right_1, q1, q2, q3, sp__law_far (kk.l g) (kk.zne ky g), sp__law_far (ko.l g) (ko.zne ky g), sp_max2, e2, oSome, oNone, eSl, vSl, runF, env0, sSeq, sIf, sRet, sVal, sDrop, sPars, sUnp, sNext, sRetN, sRaise, mVal, mOwn, mNil, setE, eVar, eVarB, eK, eB1, eB2, eTup, eLst, aNil, aCons, bd_ok, bd_exn, sb_ok, sb_exn, tV, tAnd, tOr, tNot, eAnd, eOr, eNot, eIf, eChain, callS, List.map_cons, List.map_nil, List.length_cons, List.length_nil, List.length_map, List.replicate, List.cons_append, List.nil_append, List.getElem?_cons_zero, List.getElem?_cons_succ, List.getElem?_nil, Nat.reduceSub, Nat.reduceAdd, Nat.zero_add, List.set_cons_zero, List.set_cons_succ, Bool.not_true, Bool.not_false, if_true, if_false, Bool.false_eq_true, eq_int, ne_int, eq_bl, ne_bl, le_int, lt_int, ge_int, gt_int, sub_int, add_int, neg_int, abs_int]
theorem cm_loop (g : GM p h s) (kk : Ky p h s k) (ko : Ky p h s o) (f0 : 0 ≤ f) (f9 : f ≤ 9) {m : Int} (m0 : 0 ≤ m) (m1 : m ≤ 100) (s5 s6 s8 : Sl) (c : Cv) : ∀ (vs : List Va) (s9 s10 : Sl), (∀ v ∈ vs, wf 31 v = true) → ∃ t9 t10, forL tN [9] L__law_common_right_1 vs [.val .cup, .val (mkV p h s), .val (IT k), .val (IT o), .val (.int f), s5, s6, .val (.int m), s8, s9, s10] c = .nx [.val .cup, .val (mkV p h s), .val (IT k), .val (IT o), .val (.int f), s5, s6, .val (.int m), s8, t9, t10] c
  | [], s9, s10, _ => ⟨s9, s10, rfl⟩
  | v :: vs, s9, s10, hw => by
    obtain ⟨t9, t10, e⟩ := cm_loop g kk ko f0 f9 m0 m1 s5 s6 s8 c vs (.val v) (.val (.bl (comOk p h s k o (f * m) v))) fun x hx => hw x (by simp [hx])
    refine ⟨t9, t10, ?_⟩
    have e1 := cm_good g kk ko f0 f9 m0 m1 (hw v (by simp)) s5 s6 s8 s10 c
    rw [forL]
    show (match L__law_common_right_1 [.val .cup, .val (mkV p h s), .val (IT k), .val (IT o), .val (.int f), s5, s6, .val (.int m), s8, .val v, s10] c with
      | .nx e c1 => _
      | .ct e c1 => _
      | .bk e c1 => _
      | .rt d c1 => _
      | .exn x e c1 => _
      | .stk => _) = _
    rw [e1]
    exact e
def cmV (td : Va) (p : Int) (k o q : List Int) : List Va := [td, IT k, IT o, IT q, .non, IL k, .tup (cutA (k.map .int) (some 1) none), .tup (cutA (k.map .int) none (some (-1)) ++ [.bl true]), .int 5, .tup (repL p [.int 10000000000000000000000000000000000000000])]
theorem cmV_wf {td : Va} {q : List Int} (ht : wf 31 td = true) {v : Va} (hv : v ∈ cmV td p k o q) : wf 31 v = true := by
  have ki : ∀ ns : List Int, wfs 30 (ns.map .int) = true := fun ns => wfs_ints 29 ns
  have t : ∀ {ds : List Va}, wfs 30 ds = true → wf 31 (.tup ds) = true := fun hd => by simpa [wf] using hd
  have t2 : ∀ {ds : List Va}, wfs 30 ds = true → wf 31 (.lst ds) = true := fun hd => by simpa [wf] using hd
  have cL : ∀ lo hi, wfs 30 (cutA (k.map .int) lo hi) = true := fun lo hi => wfs_sub (ki k) fun x hx => cutA_mem hx
  simp only [cmV, List.mem_cons, List.not_mem_nil, or_false] at hv
  rcases hv with e | e | e | e | e | e | e | e | e | e <;> subst e
  · exact ht
  · exact t (ki _)
  · exact t (ki _)
  · exact t (ki _)
  · simp [wf]
  · exact t2 (ki _)
  · exact t (cL _ _)
  · exact t (by rw [wfs_app, cL]; simp [wfs, wf])
  · simp [wf]
  · exact t (wfs_rep (by simp [wfs, wf]))
def cmE : SE := (eTup (aCons (eVar 8) (aCons (eVar 2) (aCons (eVar 3) (aCons (callS F__law_key (aCons (eVar 0) (aCons (eVar 1) aNil))) (aCons (eK .non) (aCons (eB1 (eVarB 2) vLstOf) (aCons (eSl (eVarB 2) (oSome (eK (.int 1))) oNone vSl) (aCons (eB2 (eSl (eVarB 2) oNone (oSome (eB1 (eK (.int 1)) vNeg)) vSl) (eTup (aCons (eK (.bl true)) aNil)) vAdd) (aCons (eK (.int 5)) (aCons (eB2 (eTup (aCons (eB2 (eK (.int 10)) (eK (.int 40)) vPow) aNil)) (eB2 (eVarB 1) (eK (.int 0)) vIx) vMulW) aNil)))))))))))
theorem L__law_common_right_2_eq : L__law_common_right_2 = (sIf (tV (eChain (eK (.int 0)) (eVarB 7) (eK (.int 101)) vLe vLt)) (sSeq (sVal 8 (callS F_common_copy (aCons (eVar 1) (aCons (eVar 2) (aCons (eVar 3) (aCons (eVar 4) (aCons (eVar 7) aNil))))))) (sSeq (sIf (tV (eB2 (eB2 (eVarB 8) (eK .non) vIs) (eB2 (eVarB 7) (eVarB 6) vLt) vNe)) (sRet (eK (.bl false))) sNext) (sSeq (sIf (tAnd (tV (eB2 (eVarB 8) (eK .non) vIsN)) (tOr (tNot (tV (callS F__law_is_key (aCons (eVar 1) (aCons (eVar 8) aNil))))) (tV (eB2 (eB2 (callS F__law_far (aCons (eVar 2) (aCons (eVar 8) aNil))) (callS F__law_far (aCons (eVar 3) (aCons (eVar 8) aNil))) vMax2) (eB2 (eVarB 4) (eVarB 7) vMulW) vGt)))) (sRet (eK (.bl false))) sNext) (sFor (iVal cmE) tN [9] L__law_common_right_1)))) sNext) := rfl
theorem B__law_common_right_eq : B__law_common_right = (sSeq (sVal 5 (callS F__law_far (aCons (eVar 2) (aCons (eVar 3) aNil)))) (sSeq (sVal 6 leaE) (sSeq (sFor (iVal (eTup (aCons (eK (.int 0)) (aCons (eB2 (eVarB 6) (eK (.int 1)) vSub) (aCons (eVar 6) (aCons (eB2 (eVarB 6) (eK (.int 1)) vAdd) (aCons (callS F__law_roll (aCons (eVar 0) (aCons (eK (.int 101)) aNil))) (aCons (eK (.int 100)) aNil)))))))) tN [7] L__law_common_right_2) (sRet (eK (.bl true)))))) := rfl
theorem cm_turn (g : GM p h s) (kk : Ky p h s k) (ko : Ky p h s o) (f0 : 0 ≤ f) (f9 : f ≤ 9) {c : Cv} (hc : CupOk c) (s5 : Sl) (x : Int) (s8 s9 s10 : Sl) : ∃ (t7 t8 t9 t10 : Sl) (c' : Cv), L__law_common_right_2 [.val .cup, .val (mkV p h s), .val (IT k), .val (IT o), .val (.int f), s5, .val (.int (lea (far k o) f)), .val (.int x), s8, s9, s10] c = .nx [.val .cup, .val (mkV p h s), .val (IT k), .val (IT o), .val (.int f), s5, .val (.int (lea (far k o) f)), t7, t8, t9, t10] c' ∧ CupOk c' := by
  rw [L__law_common_right_2_eq]
  by_cases m0 : 0 ≤ x
  · by_cases m1 : x < 101
    · obtain ⟨q, c2, e10, kq, hc2⟩ := sp__law_key g hc
      have e1 := sp_common_copy g kk ko f0 f9 m0 (by omega) c
      have e2 := mul_int f x c (.inr (na1 100 (by omega) (by omega)))
      have el := lea_lt (d := far k o) f0 f9 (far_bd g kk ko).1 m0 (show x ≤ 100 by omega)
      have mw : ∀ c, vMulW (.tup [.int 10000000000000000000000000000000000000000]) (.int p) c = .ok (.tup (repL p [.int 10000000000000000000000000000000000000000])) c := fun c => mulW_tup _ g.p1 (by have := g.p8; omega) c
      have hp : ∀ c, vPow (.int 10) (.int 40) c = .ok (.int 10000000000000000000000000000000000000000) c := fun c => by
        simp [vPow, vI2, gPow]
      have lk := kk.l g
      have ad : ∀ c, vAdd (.tup (cutA (k.map .int) none (some (-1)))) (.tup [.bl true]) c = .ok (.tup (cutA (k.map .int) none (some (-1)) ++ [.bl true])) c := add_tup (by
        have := cutA_len (k.map Va.int) none (some (-1))
        have := kk.len; have := g.p8
        simp at *; omega)
      have V : ∀ (td : Va) (E : Ev), E[0]? = some (.val .cup) → E[8]? = some (.val td) → E[2]? = some (.val (IT k)) → E[3]? = some (.val (IT o)) → E[1]? = some (.val (mkV p h s)) → cmE E c = .ok (.tup (cmV td p k o q)) c2 := fun td E h0 h8 h2 h3 h1 => by
        simp [cmE, h0, h8, h2, h3, h1, e10, hp, mw, ad, ix0, sl_tup, lst_of, le24, cmV, oSome, oNone, eSl, vSl, runF, env0, sSeq, sIf, sRet, sVal, sDrop, sPars, sUnp, sNext, sRetN, sRaise, mVal, mOwn, mNil, setE, eVar, eVarB, eK, eB1, eB2, eTup, eLst, aNil, aCons, bd_ok, bd_exn, sb_ok, sb_exn, tV, tAnd, tOr, tNot, eAnd, eOr, eNot, eIf, eChain, callS, List.map_cons, List.map_nil, List.length_cons, List.length_nil, List.length_map, List.replicate, List.cons_append, List.nil_append, List.getElem?_cons_zero, List.getElem?_cons_succ, List.getElem?_nil, Nat.reduceSub, Nat.reduceAdd, Nat.zero_add, List.set_cons_zero, List.set_cons_succ, Bool.not_true, Bool.not_false, if_true, if_false, Bool.false_eq_true, eq_int, ne_int, eq_bl, ne_bl, le_int, lt_int, ge_int, gt_int, sub_int, add_int, neg_int, abs_int]
      by_cases hf : 2 * f * x < far k o
      · rw [if_pos hf] at e1
        rw [decide_eq_true hf, decide_eq_true_eq] at el
        obtain ⟨t9, t10, e3⟩ := cm_loop g kk ko f0 f9 m0 (show x ≤ 100 by omega) s5 (.val (.int (lea (far k o) f))) (.val .non) c2 (cmV .non p k o q) s9 s10 fun v hv => cmV_wf (by simp [wf]) hv
        refine ⟨.val (.int x), .val .non, t9, t10, c2, ?_, hc2⟩
        have V2 := V .non [.val .cup, .val (mkV p h s), .val (IT k), .val (IT o), .val (.int f), s5, .val (.int (lea (far k o) f)), .val (.int x), .val .non, s9, s10] rfl rfl rfl rfl rfl
        generalize cmV .non p k o q = Q at e3 V2
        simp [sFor, iVal, vIt, eChain, m0, m1, e1, el, V2, e3, vIs, vIsN, oSome, oNone, eSl, vSl, runF, env0, sSeq, sIf, sRet, sVal, sDrop, sPars, sUnp, sNext, sRetN, sRaise, mVal, mOwn, mNil, setE, eVar, eVarB, eK, eB1, eB2, eTup, eLst, aNil, aCons, bd_ok, bd_exn, sb_ok, sb_exn, tV, tAnd, tOr, tNot, eAnd, eOr, eNot, eIf, eChain, callS, List.map_cons, List.map_nil, List.length_cons, List.length_nil, List.length_map, List.replicate, List.cons_append, List.nil_append, List.getElem?_cons_zero, List.getElem?_cons_succ, List.getElem?_nil, Nat.reduceSub, Nat.reduceAdd, Nat.zero_add, List.set_cons_zero, List.set_cons_succ, Bool.not_true, Bool.not_false, if_true, if_false, Bool.false_eq_true, eq_int, ne_int, eq_bl, ne_bl, le_int, lt_int, ge_int, gt_int, sub_int, add_int, neg_int, abs_int]
      · rw [if_neg hf] at e1
        rw [decide_eq_false hf, decide_eq_false_iff_not] at el
        obtain ⟨t9, t10, e3⟩ := cm_loop g kk ko f0 f9 m0 (show x ≤ 100 by omega) s5 (.val (.int (lea (far k o) f))) (.val (IT (mid k o))) c2 (cmV (IT (mid k o)) p k o q) s9 s10 fun v hv => cmV_wf (by simp [wf, wfs_ints]) hv
        refine ⟨.val (.int x), .val (IT (mid k o)), t9, t10, c2, ?_, hc2⟩
        have km := kk.mid ko
        have fx : 0 ≤ f * x := Int.mul_nonneg f0 m0
        have hf2 : far k o ≤ 2 * (f * x) := by rw [← Int.mul_assoc]; omega
        have b1 := far_mid fx hf2
        have b2 := far_mid (k := o) (o := k) fx (by rw [← far_symm kk ko g]; exact hf2)
        rw [mid_symm] at b2
        have b3 : ¬ f * x < mx (far k (mid k o)) (far o (mid k o)) := by
          have := mx_le.mpr ⟨b1, b2⟩
          omega
        have i1 := sp__law_is_key g (v := IT (mid k o)) (by simp [wf, wfs_ints]) c
        rw [km.fits] at i1
        have V2 := V (IT (mid k o)) [.val .cup, .val (mkV p h s), .val (IT k), .val (IT o), .val (.int f), s5, .val (.int (lea (far k o) f)), .val (.int x), .val (IT (mid k o)), s9, s10] rfl rfl rfl rfl rfl
        generalize cmV (IT (mid k o)) p k o q = Q at e3 V2
        simp [sFor, iVal, vIt, eChain, m0, m1, e1, e2, el, V2, e3, vIs, vIsN, i1, sp__law_far (kk.l g) (kk.zne km g), sp__law_far (ko.l g) (ko.zne km g), sp_max2, b3, oSome, oNone, eSl, vSl, runF, env0, sSeq, sIf, sRet, sVal, sDrop, sPars, sUnp, sNext, sRetN, sRaise, mVal, mOwn, mNil, setE, eVar, eVarB, eK, eB1, eB2, eTup, eLst, aNil, aCons, bd_ok, bd_exn, sb_ok, sb_exn, tV, tAnd, tOr, tNot, eAnd, eOr, eNot, eIf, eChain, callS, List.map_cons, List.map_nil, List.length_cons, List.length_nil, List.length_map, List.replicate, List.cons_append, List.nil_append, List.getElem?_cons_zero, List.getElem?_cons_succ, List.getElem?_nil, Nat.reduceSub, Nat.reduceAdd, Nat.zero_add, List.set_cons_zero, List.set_cons_succ, Bool.not_true, Bool.not_false, if_true, if_false, Bool.false_eq_true, eq_int, ne_int, eq_bl, ne_bl, le_int, lt_int, ge_int, gt_int, sub_int, add_int, neg_int, abs_int]
    · exact ⟨.val (.int x), s8, s9, s10, c, by simp [eChain, m0, m1, oSome, oNone, eSl, vSl, runF, env0, sSeq, sIf, sRet, sVal, sDrop, sPars, sUnp, sNext, sRetN, sRaise, mVal, mOwn, mNil, setE, eVar, eVarB, eK, eB1, eB2, eTup, eLst, aNil, aCons, bd_ok, bd_exn, sb_ok, sb_exn, tV, tAnd, tOr, tNot, eAnd, eOr, eNot, eIf, eChain, callS, List.map_cons, List.map_nil, List.length_cons, List.length_nil, List.length_map, List.replicate, List.cons_append, List.nil_append, List.getElem?_cons_zero, List.getElem?_cons_succ, List.getElem?_nil, Nat.reduceSub, Nat.reduceAdd, Nat.zero_add, List.set_cons_zero, List.set_cons_succ, Bool.not_true, Bool.not_false, if_true, if_false, Bool.false_eq_true, eq_int, ne_int, eq_bl, ne_bl, le_int, lt_int, ge_int, gt_int, sub_int, add_int, neg_int, abs_int], hc⟩
  · exact ⟨.val (.int x), s8, s9, s10, c, by simp [eChain, m0, oSome, oNone, eSl, vSl, runF, env0, sSeq, sIf, sRet, sVal, sDrop, sPars, sUnp, sNext, sRetN, sRaise, mVal, mOwn, mNil, setE, eVar, eVarB, eK, eB1, eB2, eTup, eLst, aNil, aCons, bd_ok, bd_exn, sb_ok, sb_exn, tV, tAnd, tOr, tNot, eAnd, eOr, eNot, eIf, eChain, callS, List.map_cons, List.map_nil, List.length_cons, List.length_nil, List.length_map, List.replicate, List.cons_append, List.nil_append, List.getElem?_cons_zero, List.getElem?_cons_succ, List.getElem?_nil, Nat.reduceSub, Nat.reduceAdd, Nat.zero_add, List.set_cons_zero, List.set_cons_succ, Bool.not_true, Bool.not_false, if_true, if_false, Bool.false_eq_true, eq_int, ne_int, eq_bl, ne_bl, le_int, lt_int, ge_int, gt_int, sub_int, add_int, neg_int, abs_int], hc⟩
theorem sp__law_common_right (g : GM p h s) (kk : Ky p h s k) (ko : Ky p h s o) (f0 : 0 ≤ f) (f9 : f ≤ 9) {c : Cv} (hc : CupOk c) : ∃ c', F__law_common_right [.cup, mkV p h s, IT k, IT o, .int f] c = .ok (.bl true) c' ∧ CupOk c' := by
  have e1 := sp__law_far (kk.l g) (kk.zne ko g) c
  have e2 := sp_lea f0 f9 (d := far k o) (env := [.val .cup, .val (mkV p h s), .val (IT k), .val (IT o), .val (.int f), .val (.int (far k o)), .un, .un, .un, .un, .un]) rfl rfl c
  obtain ⟨r, c1, e9, r0, r1, hc1⟩ := sp__law_roll hc (m := 101) (by decide) (by decide)
  have key := forL_inv (t := tN) (is := [7]) (body := L__law_common_right_2) Va.int
    (fun _ env c => CupOk c ∧ ∃ (s7 s8 s9 s10 : Sl), env = [.val .cup, .val (mkV p h s), .val (IT k), .val (IT o), .val (.int f), .val (.int (far k o)), .val (.int (lea (far k o) f)), s7, s8, s9, s10])
    (fun z => ∃ (E : Ev) (c' : Cv), z = .nx E c' ∧ CupOk c')
    [0, lea (far k o) f - 1, lea (far k o) f, lea (far k o) f + 1, r, 100] [.val .cup, .val (mkV p h s), .val (IT k), .val (IT o), .val (.int f), .val (.int (far k o)), .val (.int (lea (far k o) f)), .un, .un, .un, .un] c1
    ⟨hc1, .un, .un, .un, .un, rfl⟩
    (by
      rintro x rest env c ⟨hc, s7, s8, s9, s10, rfl⟩
      obtain ⟨t7, t8, t9, t10, c', e, hc'⟩ := cm_turn g kk ko f0 f9 hc (.val (.int (far k o))) x s8 s9 s10
      exact ⟨[.int x], rfl, .inl ⟨_, c', .inl e, hc', t7, t8, t9, t10, rfl⟩⟩)
    (by
      rintro env c ⟨hc, _⟩
      exact ⟨env, c, rfl, hc⟩)
  obtain ⟨E, c', e3, hc'⟩ := key
  refine ⟨c', ?_, hc'⟩
  simp only [List.map_cons, List.map_nil] at e3
  generalize lea (far k o) f = z at *
  simp [F__law_common_right, B__law_common_right_eq, sFor, iVal, vIt, e1, e2, e9, e3, le24, oSome, oNone, eSl, vSl, runF, env0, sSeq, sIf, sRet, sVal, sDrop, sPars, sUnp, sNext, sRetN, sRaise, mVal, mOwn, mNil, setE, eVar, eVarB, eK, eB1, eB2, eTup, eLst, aNil, aCons, bd_ok, bd_exn, sb_ok, sb_exn, tV, tAnd, tOr, tNot, eAnd, eOr, eNot, eIf, eChain, callS, List.map_cons, List.map_nil, List.length_cons, List.length_nil, List.length_map, List.replicate, List.cons_append, List.nil_append, List.getElem?_cons_zero, List.getElem?_cons_succ, List.getElem?_nil, Nat.reduceSub, Nat.reduceAdd, Nat.zero_add, List.set_cons_zero, List.set_cons_succ, Bool.not_true, Bool.not_false, if_true, if_false, Bool.false_eq_true, eq_int, ne_int, eq_bl, ne_bl, le_int, lt_int, ge_int, gt_int, sub_int, add_int, neg_int, abs_int]
end
end G

set_option Elab.async false
set_option linter.all false
set_option maxRecDepth 100000
set_option maxHeartbeats 8000000
namespace G
set_option autoImplicit false
open PySem PySem.Spec PyProof.Rows L2
theorem ne_self {d : Va} (h : wf 60 d = true) (c : Cv) : vNe d d c = .ok (.bl false) c := by
  have := PySem.SeqAt.eqv_refl_plain (toP d) (wf_plain 60 d h).1
  simp [vNe, h, this]
def st1 : SS := (sUnp (eTup (aCons (eTup (aCons (eK (.int 8)) (aCons (eK (.int 10)) (aCons (eK (.int 1)) aNil)))) (aCons (eB2 (eTup (aCons (eK (.int 0)) aNil)) (eK (.int 8)) vMulW) (aCons (eB2 (eTup (aCons (eK (.int 9)) aNil)) (eK (.int 8)) vMulW) aNil)))) (tT (tsC tN (tsC tN (tsC tN tsN)))) [2, 3, 4])
def st2 : SS := (sVal 5 (eB1 C_law_1 vTup))
def st3 : SS := (sVal 5 (eB2 (eVarB 5) (eTup (aCons (callS F_copies_needed (aCons (eVar 2) (aCons (eVar 3) (aCons (eVar 3) (aCons (eK (.int 0)) aNil))))) aNil)) vAdd))
def st4 : SS := (sIf (tOr (tNot (tV (callS (F__law_same 8) (aCons (eVar 5) (aCons (eTup (aCons (eK (.int 9)) (aCons (eK (.int 5)) (aCons (eK (.int 3)) (aCons (eK (.int 2)) (aCons (eK (.int 1)) (aCons (eK .non) (aCons (eK (.int 0)) aNil)))))))) aNil))))) (tV (eB2 (callS F_copy_row (aCons (eVar 2) (aCons (eVar 4) (aCons (eVar 4) (aCons (eK (.int 0)) aNil))))) (eTup (aCons (eVar 4) aNil)) vNe))) (sRet (eK (.bl false))) sNext)
def st5 : SS := (sVal 5 (eTup (aCons (callS F_common_copy (aCons (eVar 2) (aCons (eVar 3) (aCons (eVar 4) (aCons (eK (.int 1)) (aCons (eK (.int 4)) aNil)))))) (aCons (callS F_common_copy (aCons (eVar 2) (aCons (eVar 3) (aCons (eVar 4) (aCons (eK (.int 9)) (aCons (eK (.int 0)) aNil)))))) (aCons (callS F_is_common_copy (aCons (eVar 2) (aCons (eVar 3) (aCons (eVar 4) (aCons (eK (.int 1)) (aCons (eK (.int 5)) (aCons (eB2 (eTup (aCons (eK (.int 4)) aNil)) (eK (.int 8)) vMulW) aNil))))))) aNil)))))
def st6 : SS := (sIf (tOr (tNot (tV (callS (F__law_same 8) (aCons (eVar 5) (aCons (eTup (aCons (eK .non) (aCons (eK .non) (aCons (eK (.bl true)) aNil)))) aNil))))) (tV (eB2 (callS F_is_common_copy (aCons (eVar 2) (aCons (eVar 3) (aCons (eVar 4) (aCons (eK (.int 1)) (aCons (eK (.int 5)) (aCons (eB2 (eTup (aCons (eK (.int 5)) aNil)) (eK (.int 8)) vMulW) aNil))))))) (eK (.bl true)) vIsN))) (sRet (eK (.bl false))) sNext)
def st7 : SS := (sVal 7 (eTup (aCons (eTup (aCons (eVar 3) (aCons (eK (.int 0)) (aCons (eB2 (eTup (aCons (eVar 3) aNil)) (eK (.int 101)) vMulW) aNil)))) (aCons (eTup (aCons (eVar 3) (aCons (eK (.int 0)) (aCons (eB2 (eTup (aCons (eVar 3) aNil)) (eK (.int 102)) vMulW) aNil)))) (aCons (eTup (aCons (eVar 4) (aCons (eK (.int 9)) (aCons (eTup (aCons (eVar 3) (aCons (eVar 4) aNil))) aNil)))) aNil)))))
def st8 : SS := (sIf (tOr (tV (eB2 C_law_2 (eLst (aCons (eK (.bl true)) (aCons (eK (.bl false)) (aCons (eK (.bl true)) aNil)))) vNe)) (tV (eB2 (callS F_common_copy (aCons (eVar 2) (aCons (eVar 3) (aCons (eVar 3) (aCons (eK (.int 0)) (aCons (eK (.int 0)) aNil)))))) (eVarB 3) vNe))) (sRet (eK (.bl false))) sNext)
def st9 : SS := (sVal 7 (eLst (aCons (eTup (aCons (eK .non) (aCons (eVar 3) (aCons (eVar 3) (aCons (eK (.int 0)) aNil))))) (aCons (eTup (aCons (eVar 2) (aCons (eK .non) (aCons (eVar 3) (aCons (eK (.int 0)) aNil))))) (aCons (eTup (aCons (eVar 2) (aCons (eVar 3) (aCons (eSl (eVarB 3) (oSome (eK (.int 1))) oNone vSl) (aCons (eK (.int 0)) aNil))))) (aCons (eTup (aCons (eVar 2) (aCons (eVar 3) (aCons (eB2 (eTup (aCons (eK (.int 9)) (aCons (eK (.int 0)) aNil))) (eK (.int 4)) vMulW) (aCons (eK (.int 0)) aNil))))) aNil))))))
def st10 : SS := (sVal 7 (eB2 (eVarB 7) C_law_3 vAdd))
def st11 : SS := (sVal 10 C_law_4)
def st12 : SS := (sVal 10 (eB2 (eVarB 10) C_law_5 vAdd))
def st13 : SS := (sIf (tV (eB2 (eVarB 10) (eB2 (eB2 (eLst (aCons (eK (.str "make")) (aCons (eK (.str "key")) (aCons (eK (.str "key")) (aCons (eK (.str "key")) (aCons (eK (.str "number")) (aCons (eK (.str "number")) (aCons (eK (.str "number")) (aCons (eK (.str "")) aNil))))))))) (eB2 (eLst (aCons (eK (.str "number")) aNil)) (eK (.int 4)) vMulW) vAdd) (eLst (aCons (eK (.str "")) aNil)) vAdd) vNe)) (sRet (eK (.bl false))) sNext)
def st14 : SS := (sFor (iRange1 (eK (.int 10))) tN [15] L_law_1)
theorem B_law_eq : B_law = (sSeq (sOwn 1 (callS F__law_cup (aCons (eVar 0) aNil))) (sCup 1 (sSeq st1 (sSeq st2 (sSeq st3 (sSeq st4 (sSeq st5 (sSeq st6 (sSeq st7 (sSeq st8 (sSeq st9 (sSeq st10 (sSeq st11 (sSeq st12 (sSeq st13 (sSeq st14 (sRet (eK (.bl true))))))))))))))))))) := rfl
/-! ### the words -/
theorem word_ok {fb : SE} {env : Ev} {c c' : Cv} {v : Va} (h : fb env c = .ok v c') : lamE NL__law_word B__law_word fb env c = .ok (.str "") c' := by
  simp [lamE, runL, NL__law_word, envL, B__law_word, sTry, eLam, h, oSome, oNone, eSl, vSl, runF, env0, sSeq, sIf, sRet, sVal, sDrop, sPars, sUnp, sNext, sRetN, sRaise, mVal, mOwn, mNil, setE, eVar, eVarB, eK, eB1, eB2, eTup, eLst, aNil, aCons, bd_ok, bd_exn, sb_ok, sb_exn, tV, tAnd, tOr, tNot, eAnd, eOr, eNot, eIf, eChain, callS, List.map_cons, List.map_nil, List.length_cons, List.length_nil, List.length_map, List.replicate, List.cons_append, List.nil_append, List.getElem?_cons_zero, List.getElem?_cons_succ, List.getElem?_nil, Nat.reduceSub, Nat.reduceAdd, Nat.zero_add, List.set_cons_zero, List.set_cons_succ, Bool.not_true, Bool.not_false, if_true, if_false, Bool.false_eq_true, eq_int, ne_int, eq_bl, ne_bl, le_int, lt_int, ge_int, gt_int, sub_int, add_int, neg_int, abs_int]
theorem sup_1 : sup "InvalidMake" "TooMany" = some false := by rfl
theorem sup_2 : sup "InvalidMake" "PinsError" = some true := by rfl
theorem sup_3 : sup "InvalidMake" "InvalidMake" = some true := by rfl
theorem sup_4 : sup "InvalidKey" "TooMany" = some false := by rfl
theorem sup_5 : sup "InvalidKey" "PinsError" = some true := by rfl
theorem sup_6 : sup "InvalidKey" "InvalidMake" = some false := by rfl
theorem sup_7 : sup "InvalidKey" "InvalidKey" = some true := by rfl
theorem sup_8 : sup "InvalidNumber" "TooMany" = some false := by rfl
theorem sup_9 : sup "InvalidNumber" "PinsError" = some true := by rfl
theorem sup_10 : sup "InvalidNumber" "InvalidMake" = some false := by rfl
theorem sup_11 : sup "InvalidNumber" "InvalidKey" = some false := by rfl
theorem sup_12 : sup "InvalidNumber" "InvalidNumber" = some true := by rfl
theorem word_make {fb : SE} {env : Ev} {c c' : Cv} (h : fb env c = .exn ⟨"InvalidMake", []⟩ c') : lamE NL__law_word B__law_word fb env c = .ok (.str "make") c' := by
  simp [lamE, runL, NL__law_word, envL, B__law_word, sTry, eLam, h, noExc, handleS, onlyRet, eIsE, sup_1, sup_2, sup_3, oSome, oNone, eSl, vSl, runF, env0, sSeq, sIf, sRet, sVal, sDrop, sPars, sUnp, sNext, sRetN, sRaise, mVal, mOwn, mNil, setE, eVar, eVarB, eK, eB1, eB2, eTup, eLst, aNil, aCons, bd_ok, bd_exn, sb_ok, sb_exn, tV, tAnd, tOr, tNot, eAnd, eOr, eNot, eIf, eChain, callS, List.map_cons, List.map_nil, List.length_cons, List.length_nil, List.length_map, List.replicate, List.cons_append, List.nil_append, List.getElem?_cons_zero, List.getElem?_cons_succ, List.getElem?_nil, Nat.reduceSub, Nat.reduceAdd, Nat.zero_add, List.set_cons_zero, List.set_cons_succ, Bool.not_true, Bool.not_false, if_true, if_false, Bool.false_eq_true, eq_int, ne_int, eq_bl, ne_bl, le_int, lt_int, ge_int, gt_int, sub_int, add_int, neg_int, abs_int]
theorem word_key {fb : SE} {env : Ev} {c c' : Cv} (h : fb env c = .exn ⟨"InvalidKey", []⟩ c') : lamE NL__law_word B__law_word fb env c = .ok (.str "key") c' := by
  simp [lamE, runL, NL__law_word, envL, B__law_word, sTry, eLam, h, noExc, handleS, onlyRet, eIsE, sup_4, sup_5, sup_6, sup_7, oSome, oNone, eSl, vSl, runF, env0, sSeq, sIf, sRet, sVal, sDrop, sPars, sUnp, sNext, sRetN, sRaise, mVal, mOwn, mNil, setE, eVar, eVarB, eK, eB1, eB2, eTup, eLst, aNil, aCons, bd_ok, bd_exn, sb_ok, sb_exn, tV, tAnd, tOr, tNot, eAnd, eOr, eNot, eIf, eChain, callS, List.map_cons, List.map_nil, List.length_cons, List.length_nil, List.length_map, List.replicate, List.cons_append, List.nil_append, List.getElem?_cons_zero, List.getElem?_cons_succ, List.getElem?_nil, Nat.reduceSub, Nat.reduceAdd, Nat.zero_add, List.set_cons_zero, List.set_cons_succ, Bool.not_true, Bool.not_false, if_true, if_false, Bool.false_eq_true, eq_int, ne_int, eq_bl, ne_bl, le_int, lt_int, ge_int, gt_int, sub_int, add_int, neg_int, abs_int]
theorem word_number {fb : SE} {env : Ev} {c c' : Cv} (h : fb env c = .exn ⟨"InvalidNumber", []⟩ c') : lamE NL__law_word B__law_word fb env c = .ok (.str "number") c' := by
  simp [lamE, runL, NL__law_word, envL, B__law_word, sTry, eLam, h, noExc, handleS, onlyRet, eIsE, sup_8, sup_9, sup_10, sup_11, sup_12, oSome, oNone, eSl, vSl, runF, env0, sSeq, sIf, sRet, sVal, sDrop, sPars, sUnp, sNext, sRetN, sRaise, mVal, mOwn, mNil, setE, eVar, eVarB, eK, eB1, eB2, eTup, eLst, aNil, aCons, bd_ok, bd_exn, sb_ok, sb_exn, tV, tAnd, tOr, tNot, eAnd, eOr, eNot, eIf, eChain, callS, List.map_cons, List.map_nil, List.length_cons, List.length_nil, List.length_map, List.replicate, List.cons_append, List.nil_append, List.getElem?_cons_zero, List.getElem?_cons_succ, List.getElem?_nil, Nat.reduceSub, Nat.reduceAdd, Nat.zero_add, List.set_cons_zero, List.set_cons_succ, Bool.not_true, Bool.not_false, if_true, if_false, Bool.false_eq_true, eq_int, ne_int, eq_bl, ne_bl, le_int, lt_int, ge_int, gt_int, sub_int, add_int, neg_int, abs_int]
/-! ### the great make -/
def lo : List Int := [0, 0, 0, 0, 0, 0, 0, 0]
def hi : List Int := [9, 9, 9, 9, 9, 9, 9, 9]
abbrev Gr : Va := mkV 8 10 1
theorem gG : GM 8 10 1 := ⟨by decide, by decide, by decide, by decide, by decide, by decide⟩
theorem kL : Ky 8 10 1 lo := ⟨by decide, by decide, by decide⟩
theorem kH : Ky 8 10 1 hi := ⟨by decide, by decide, by decide⟩
abbrev EL (sc : Va) (s5 s6 s7 s8 s9 s10 s11 s12 s13 s14 s15 : Sl) : Ev := [.val sc, .val .cup, .val Gr, .val (IT lo), .val (IT hi), s5, s6, s7, s8, s9, s10, s11, s12, s13, s14, s15]
section
variable {sc : Va} {s5 s6 s7 s8 s9 s10 s11 s12 s13 s14 s15 : Sl}
theorem st1_ok (s2 s3 s4 : Sl) (c : Cv) : st1 [.val sc, .val .cup, s2, s3, s4, s5, s6, s7, s8, s9, s10, s11, s12, s13, s14, s15] c = .nx (EL sc s5 s6 s7 s8 s9 s10 s11 s12 s13 s14 s15) c := by
  have a1 : vMulW (.tup [.int 0]) (.int 8) c = .ok (IT lo) c := by rw [mulW_tup _ (by decide) (by decide)]; rfl
  have a2 : vMulW (.tup [.int 9]) (.int 8) c = .ok (IT hi) c := by rw [mulW_tup _ (by decide) (by decide)]; rfl
  simp [st1, a1, a2, le24, tT, tsC, tsN, tN, oSome, oNone, eSl, vSl, runF, env0, sSeq, sIf, sRet, sVal, sDrop, sPars, sUnp, sNext, sRetN, sRaise, mVal, mOwn, mNil, setE, eVar, eVarB, eK, eB1, eB2, eTup, eLst, aNil, aCons, bd_ok, bd_exn, sb_ok, sb_exn, tV, tAnd, tOr, tNot, eAnd, eOr, eNot, eIf, eChain, callS, List.map_cons, List.map_nil, List.length_cons, List.length_nil, List.length_map, List.replicate, List.cons_append, List.nil_append, List.getElem?_cons_zero, List.getElem?_cons_succ, List.getElem?_nil, Nat.reduceSub, Nat.reduceAdd, Nat.zero_add, List.set_cons_zero, List.set_cons_succ, Bool.not_true, Bool.not_false, if_true, if_false, Bool.false_eq_true, eq_int, ne_int, eq_bl, ne_bl, le_int, lt_int, ge_int, gt_int, sub_int, add_int, neg_int, abs_int]
theorem sp_C_law_1 (c : Cv) : C_law_1 (EL sc s5 .un s7 s8 s9 s10 s11 s12 s13 s14 s15) c = .ok (.lst [.int 9, .int 5, .int 3, .int 2, .int 1, .non]) c := by
  refine eLc_map Va.int (fun f => cpf (far lo hi) f) [1, 2, 4, 8, 9, 0] (by simp [iVal, vIt, le24, oSome, oNone, eSl, vSl, runF, env0, sSeq, sIf, sRet, sVal, sDrop, sPars, sUnp, sNext, sRetN, sRaise, mVal, mOwn, mNil, setE, eVar, eVarB, eK, eB1, eB2, eTup, eLst, aNil, aCons, bd_ok, bd_exn, sb_ok, sb_exn, tV, tAnd, tOr, tNot, eAnd, eOr, eNot, eIf, eChain, callS, List.map_cons, List.map_nil, List.length_cons, List.length_nil, List.length_map, List.replicate, List.cons_append, List.nil_append, List.getElem?_cons_zero, List.getElem?_cons_succ, List.getElem?_nil, Nat.reduceSub, Nat.reduceAdd, Nat.zero_add, List.set_cons_zero, List.set_cons_succ, Bool.not_true, Bool.not_false, if_true, if_false, Bool.false_eq_true, eq_int, ne_int, eq_bl, ne_bl, le_int, lt_int, ge_int, gt_int, sub_int, add_int, neg_int, abs_int]) (l24_of (by simp)) (by simp [ownFree]) fun f hf => lcS_yes rfl ?_
  have f0 : 0 ≤ f ∧ f ≤ 9 := by
    simp only [List.mem_cons, List.not_mem_nil, or_false] at hf
    omega
  have e := sp_copies_needed gG kL kH f0.1 f0.2 c
  generalize hX : cpf (far lo hi) f = X at *
  simp only [wipeE, oSome, oNone, eSl, vSl, runF, env0, sSeq, sIf, sRet, sVal, sDrop, sPars, sUnp, sNext, sRetN, sRaise, mVal, mOwn, mNil, setE, eVar, eVarB, eK, eB1, eB2, eTup, eLst, aNil, aCons, bd_ok, bd_exn, sb_ok, sb_exn, tV, tAnd, tOr, tNot, eAnd, eOr, eNot, eIf, eChain, callS, List.map_cons, List.map_nil, List.length_cons, List.length_nil, List.length_map, List.replicate, List.cons_append, List.nil_append, List.getElem?_cons_zero, List.getElem?_cons_succ, List.getElem?_nil, Nat.reduceSub, Nat.reduceAdd, Nat.zero_add, List.set_cons_zero, List.set_cons_succ, Bool.not_true, Bool.not_false, if_true, if_false, Bool.false_eq_true, eq_int, ne_int, eq_bl, ne_bl, le_int, lt_int, ge_int, gt_int, sub_int, add_int, neg_int, abs_int]
  exact e
theorem st2_ok (c : Cv) : st2 (EL sc s5 .un s7 s8 s9 s10 s11 s12 s13 s14 s15) c = .nx (EL sc (.val (.tup [.int 9, .int 5, .int 3, .int 2, .int 1, .non])) .un s7 s8 s9 s10 s11 s12 s13 s14 s15) c := by
  have e := sp_C_law_1 (sc := sc) (s5 := s5) (s7 := s7) (s8 := s8) (s9 := s9) (s10 := s10) (s11 := s11) (s12 := s12) (s13 := s13) (s14 := s14) (s15 := s15) c
  simp only [st2, e, vTup, oSome, oNone, eSl, vSl, runF, env0, sSeq, sIf, sRet, sVal, sDrop, sPars, sUnp, sNext, sRetN, sRaise, mVal, mOwn, mNil, setE, eVar, eVarB, eK, eB1, eB2, eTup, eLst, aNil, aCons, bd_ok, bd_exn, sb_ok, sb_exn, tV, tAnd, tOr, tNot, eAnd, eOr, eNot, eIf, eChain, callS, List.map_cons, List.map_nil, List.length_cons, List.length_nil, List.length_map, List.replicate, List.cons_append, List.nil_append, List.getElem?_cons_zero, List.getElem?_cons_succ, List.getElem?_nil, Nat.reduceSub, Nat.reduceAdd, Nat.zero_add, List.set_cons_zero, List.set_cons_succ, Bool.not_true, Bool.not_false, if_true, if_false, Bool.false_eq_true, eq_int, ne_int, eq_bl, ne_bl, le_int, lt_int, ge_int, gt_int, sub_int, add_int, neg_int, abs_int]
theorem cn0 (k : List Int) (kk : Ky 8 10 1 k) (hf : far k k = 0) (c : Cv) : F_copies_needed [Gr, IT k, IT k, .int 0] c = .ok (.int 0) c := by
  rw [sp_copies_needed gG kk kk (by decide) (by decide), hf]; rfl
abbrev told1 : Va := .tup [.int 9, .int 5, .int 3, .int 2, .int 1, .non, .int 0]
theorem st3_ok (c : Cv) : st3 (EL sc (.val (.tup [.int 9, .int 5, .int 3, .int 2, .int 1, .non])) .un s7 s8 s9 s10 s11 s12 s13 s14 s15) c = .nx (EL sc (.val told1) .un s7 s8 s9 s10 s11 s12 s13 s14 s15) c := by
  have e := cn0 lo kL (by decide) c
  simp [st3, e, add_tup, le24, oSome, oNone, eSl, vSl, runF, env0, sSeq, sIf, sRet, sVal, sDrop, sPars, sUnp, sNext, sRetN, sRaise, mVal, mOwn, mNil, setE, eVar, eVarB, eK, eB1, eB2, eTup, eLst, aNil, aCons, bd_ok, bd_exn, sb_ok, sb_exn, tV, tAnd, tOr, tNot, eAnd, eOr, eNot, eIf, eChain, callS, List.map_cons, List.map_nil, List.length_cons, List.length_nil, List.length_map, List.replicate, List.cons_append, List.nil_append, List.getElem?_cons_zero, List.getElem?_cons_succ, List.getElem?_nil, Nat.reduceSub, Nat.reduceAdd, Nat.zero_add, List.set_cons_zero, List.set_cons_succ, Bool.not_true, Bool.not_false, if_true, if_false, Bool.false_eq_true, eq_int, ne_int, eq_bl, ne_bl, le_int, lt_int, ge_int, gt_int, sub_int, add_int, neg_int, abs_int]
theorem st4_ok (c : Cv) : st4 (EL sc (.val told1) .un s7 s8 s9 s10 s11 s12 s13 s14 s15) c = .nx (EL sc (.val told1) .un s7 s8 s9 s10 s11 s12 s13 s14 s15) c := by
  have e1 := sp_same_tup (ds := [.int 9, .int 5, .int 3, .int 2, .int 1, .non, .int 0]) (by simp [atm]) (by simp) 6 c
  have e2 := sp_copy_row gG kH kH (f := 0) (by decide) (by decide) c (m := 0) (by decide) (by rfl)
  have e3 : (rowsV hi hi 0 (0 + 1)) = [IT hi] := by rfl
  rw [e3] at e2
  have e4 := ne_self (d := .tup [IT hi]) (by rfl) c
  simp [st4, e1, e2, e4, le24, oSome, oNone, eSl, vSl, runF, env0, sSeq, sIf, sRet, sVal, sDrop, sPars, sUnp, sNext, sRetN, sRaise, mVal, mOwn, mNil, setE, eVar, eVarB, eK, eB1, eB2, eTup, eLst, aNil, aCons, bd_ok, bd_exn, sb_ok, sb_exn, tV, tAnd, tOr, tNot, eAnd, eOr, eNot, eIf, eChain, callS, List.map_cons, List.map_nil, List.length_cons, List.length_nil, List.length_map, List.replicate, List.cons_append, List.nil_append, List.getElem?_cons_zero, List.getElem?_cons_succ, List.getElem?_nil, Nat.reduceSub, Nat.reduceAdd, Nat.zero_add, List.set_cons_zero, List.set_cons_succ, Bool.not_true, Bool.not_false, if_true, if_false, Bool.false_eq_true, eq_int, ne_int, eq_bl, ne_bl, le_int, lt_int, ge_int, gt_int, sub_int, add_int, neg_int, abs_int]
end
end G

set_option Elab.async false
set_option linter.all false
set_option maxRecDepth 100000
set_option maxHeartbeats 8000000
namespace G
set_option autoImplicit false
open PySem PySem.Spec PyProof.Rows L2
section
variable {sc : Va} {s5 s6 s7 s8 s9 s10 s11 s12 s13 s14 s15 : Sl}
abbrev told2 : Va := .tup [.non, .non, .bl true]
def k4 : List Int := [4, 4, 4, 4, 4, 4, 4, 4]
def k5 : List Int := [5, 5, 5, 5, 5, 5, 5, 5]
theorem k4Y : Ky 8 10 1 k4 := ⟨by decide, by decide, by decide⟩
theorem k5Y : Ky 8 10 1 k5 := ⟨by decide, by decide, by decide⟩
theorem k4M (c : Cv) : vMulW (.tup [.int 4]) (.int 8) c = .ok (IT k4) c := by rw [mulW_tup _ (by decide) (by decide)]; rfl
theorem k5M (c : Cv) : vMulW (.tup [.int 5]) (.int 8) c = .ok (IT k5) c := by rw [mulW_tup _ (by decide) (by decide)]; rfl
theorem ic4 (c : Cv) : F_is_common_copy [Gr, IT lo, IT hi, .int 1, .int 5, IT k4] c = .ok (.bl true) c := by
  rw [sp_is_common_copy gG kL kH (by decide) (by decide) (by decide) (by decide) (pl_IT k4), show comOk 8 10 1 lo hi (1 * 5) (IT k4) = true by decide +kernel]
theorem ic5 (c : Cv) : F_is_common_copy [Gr, IT lo, IT hi, .int 1, .int 5, IT k5] c = .ok (.bl true) c := by
  rw [sp_is_common_copy gG kL kH (by decide) (by decide) (by decide) (by decide) (pl_IT k5), show comOk 8 10 1 lo hi (1 * 5) (IT k5) = true by decide +kernel]
theorem cc1 (c : Cv) : F_common_copy [Gr, IT lo, IT hi, .int 1, .int 4] c = .ok .non c := by
  rw [sp_common_copy gG kL kH (by decide) (by decide) (by decide) (by decide), if_pos (by decide)]
theorem cc2 (c : Cv) : F_common_copy [Gr, IT lo, IT hi, .int 9, .int 0] c = .ok .non c := by
  rw [sp_common_copy gG kL kH (by decide) (by decide) (by decide) (by decide), if_pos (by decide)]
theorem cc3 {m : Int} (m0 : 0 ≤ m) (m1 : m ≤ 100) (c : Cv) : F_common_copy [Gr, IT lo, IT lo, .int 0, .int m] c = .ok (IT lo) c := by
  rw [sp_common_copy gG kL kL (by decide) (by decide) m0 m1, if_neg (by rw [show far lo lo = 0 by decide]; simp), mid_self]
theorem st5_ok (c : Cv) : st5 (EL sc s5 .un s7 s8 s9 s10 s11 s12 s13 s14 s15) c = .nx (EL sc (.val told2) .un s7 s8 s9 s10 s11 s12 s13 s14 s15) c := by
  simp [st5, cc1, cc2, k4M, ic4, le24, oSome, oNone, eSl, vSl, runF, env0, sSeq, sIf, sRet, sVal, sDrop, sPars, sUnp, sNext, sRetN, sRaise, mVal, mOwn, mNil, setE, eVar, eVarB, eK, eB1, eB2, eTup, eLst, aNil, aCons, bd_ok, bd_exn, sb_ok, sb_exn, tV, tAnd, tOr, tNot, eAnd, eOr, eNot, eIf, eChain, callS, List.map_cons, List.map_nil, List.length_cons, List.length_nil, List.length_map, List.replicate, List.cons_append, List.nil_append, List.getElem?_cons_zero, List.getElem?_cons_succ, List.getElem?_nil, Nat.reduceSub, Nat.reduceAdd, Nat.zero_add, List.set_cons_zero, List.set_cons_succ, Bool.not_true, Bool.not_false, if_true, if_false, Bool.false_eq_true, eq_int, ne_int, eq_bl, ne_bl, le_int, lt_int, ge_int, gt_int, sub_int, add_int, neg_int, abs_int]
theorem st6_ok (c : Cv) : st6 (EL sc (.val told2) .un s7 s8 s9 s10 s11 s12 s13 s14 s15) c = .nx (EL sc (.val told2) .un s7 s8 s9 s10 s11 s12 s13 s14 s15) c := by
  have e1 := sp_same_tup (ds := [.non, .non, .bl true]) (by simp [atm]) (by simp) 6 c
  simp [st6, e1, k5M, ic5, vIsN, le24, oSome, oNone, eSl, vSl, runF, env0, sSeq, sIf, sRet, sVal, sDrop, sPars, sUnp, sNext, sRetN, sRaise, mVal, mOwn, mNil, setE, eVar, eVarB, eK, eB1, eB2, eTup, eLst, aNil, aCons, bd_ok, bd_exn, sb_ok, sb_exn, tV, tAnd, tOr, tNot, eAnd, eOr, eNot, eIf, eChain, callS, List.map_cons, List.map_nil, List.length_cons, List.length_nil, List.length_map, List.replicate, List.cons_append, List.nil_append, List.getElem?_cons_zero, List.getElem?_cons_succ, List.getElem?_nil, Nat.reduceSub, Nat.reduceAdd, Nat.zero_add, List.set_cons_zero, List.set_cons_succ, Bool.not_true, Bool.not_false, if_true, if_false, Bool.false_eq_true, eq_int, ne_int, eq_bl, ne_bl, le_int, lt_int, ge_int, gt_int, sub_int, add_int, neg_int, abs_int]
def row1 : Va := .tup (repL 101 [IT lo])
def row2 : Va := .tup (repL 102 [IT lo])
def row3 : Va := .tup [IT lo, IT hi]
abbrev rows1 : Va := .tup [.tup [IT lo, .int 0, row1], .tup [IT lo, .int 0, row2], .tup [IT hi, .int 9, row3]]
theorem st7_ok (c : Cv) : st7 (EL sc s5 .un s7 s8 s9 s10 s11 s12 s13 s14 s15) c = .nx (EL sc s5 .un (.val rows1) s8 s9 s10 s11 s12 s13 s14 s15) c := by
  have e1 : vMulW (.tup [IT lo]) (.int 101) c = .ok row1 c := mulW_tup _ (by decide) (by decide) c
  have e2 : vMulW (.tup [IT lo]) (.int 102) c = .ok row2 c := mulW_tup _ (by decide) (by decide) c
  simp [st7, e1, e2, row3, le24, oSome, oNone, eSl, vSl, runF, env0, sSeq, sIf, sRet, sVal, sDrop, sPars, sUnp, sNext, sRetN, sRaise, mVal, mOwn, mNil, setE, eVar, eVarB, eK, eB1, eB2, eTup, eLst, aNil, aCons, bd_ok, bd_exn, sb_ok, sb_exn, tV, tAnd, tOr, tNot, eAnd, eOr, eNot, eIf, eChain, callS, List.map_cons, List.map_nil, List.length_cons, List.length_nil, List.length_map, List.replicate, List.cons_append, List.nil_append, List.getElem?_cons_zero, List.getElem?_cons_succ, List.getElem?_nil, Nat.reduceSub, Nat.reduceAdd, Nat.zero_add, List.set_cons_zero, List.set_cons_succ, Bool.not_true, Bool.not_false, if_true, if_false, Bool.false_eq_true, eq_int, ne_int, eq_bl, ne_bl, le_int, lt_int, ge_int, gt_int, sub_int, add_int, neg_int, abs_int]
theorem pl_rep {j : Int} {ks : List Int} : pl (.tup (repL j [IT ks])) = true := by
  have : wfs 59 (repL j [IT ks]) = true := wfs_rep (by simp [wfs, wf, wfs_ints])
  exact wf_pl 60 _ (by simpa [wf] using this)
theorem t3' (a b d : Va) : tT (tsC tN (tsC tN (tsC tN tsN))) (.tup [a, b, d]) = some [a, b, d] := rfl
theorem t4' (a b d e : Va) : tT (tsC tN (tsC tN (tsC tN (tsC tN tsN)))) (.tup [a, b, d, e]) = some [a, b, d, e] := rfl
theorem sp_C_law_2 (c : Cv) : C_law_2 (EL sc s5 .un (.val rows1) .un .un s10 s11 s12 s13 s14 s15) c = .ok (.lst [.bl true, .bl false, .bl true]) c := by
  have r1 : F_is_copy_row [Gr, IT lo, IT lo, .int 0, row1] c = .ok (.bl true) c := by
    rw [sp_is_copy_row gG kL kL (by decide) (by decide) (by exact pl_rep), show rowOk 8 10 1 lo lo 0 row1 = true by decide +kernel]
  have r2 : F_is_copy_row [Gr, IT lo, IT lo, .int 0, row2] c = .ok (.bl false) c := by
    rw [sp_is_copy_row gG kL kL (by decide) (by decide) (by exact pl_rep), show rowOk 8 10 1 lo lo 0 row2 = false by decide +kernel]
  have r3 : F_is_copy_row [Gr, IT lo, IT hi, .int 9, row3] c = .ok (.bl true) c := by
    rw [sp_is_copy_row gG kL kH (by decide) (by decide) (by decide +kernel), show rowOk 8 10 1 lo hi 9 row3 = true by decide +kernel]
  have e := eLc_map (t := tT (tsC tN (tsC tN (tsC tN tsN)))) (is := [8, 6, 9]) (vs := [8, 6, 9]) (tt := tYesS) (f := callS F_is_copy_row (aCons (eVar 2) (aCons (eVar 3) (aCons (eVar 8) (aCons (eVar 6) (aCons (eVar 9) aNil)))))) (fi := iVal (eVar 7)) (env := EL sc s5 .un (.val rows1) .un .un s10 s11 s12 s13 s14 s15) (c := c) (c1 := c)
    (fun q : (Va × Va × Va) × Bool => .tup [q.1.1, q.1.2.1, q.1.2.2]) (fun q => .bl q.2) [((IT lo, .int 0, row1), true), ((IT lo, .int 0, row2), false), ((IT hi, .int 9, row3), true)]
    (by simp [iVal, vIt, oSome, oNone, eSl, vSl, runF, env0, sSeq, sIf, sRet, sVal, sDrop, sPars, sUnp, sNext, sRetN, sRaise, mVal, mOwn, mNil, setE, eVar, eVarB, eK, eB1, eB2, eTup, eLst, aNil, aCons, bd_ok, bd_exn, sb_ok, sb_exn, tV, tAnd, tOr, tNot, eAnd, eOr, eNot, eIf, eChain, callS, List.map_cons, List.map_nil, List.length_cons, List.length_nil, List.length_map, List.replicate, List.cons_append, List.nil_append, List.getElem?_cons_zero, List.getElem?_cons_succ, List.getElem?_nil, Nat.reduceSub, Nat.reduceAdd, Nat.zero_add, List.set_cons_zero, List.set_cons_succ, Bool.not_true, Bool.not_false, if_true, if_false, Bool.false_eq_true, eq_int, ne_int, eq_bl, ne_bl, le_int, lt_int, ge_int, gt_int, sub_int, add_int, neg_int, abs_int]) (l24_of (by simp)) (by simp [ownFree]) fun q hq => lcS_yes (t3' _ _ _) (by
      simp only [List.mem_cons, List.not_mem_nil, or_false] at hq
      rcases hq with e | e | e <;> subst e <;> simp [wipeE, r1, r2, r3, oSome, oNone, eSl, vSl, runF, env0, sSeq, sIf, sRet, sVal, sDrop, sPars, sUnp, sNext, sRetN, sRaise, mVal, mOwn, mNil, setE, eVar, eVarB, eK, eB1, eB2, eTup, eLst, aNil, aCons, bd_ok, bd_exn, sb_ok, sb_exn, tV, tAnd, tOr, tNot, eAnd, eOr, eNot, eIf, eChain, callS, List.map_cons, List.map_nil, List.length_cons, List.length_nil, List.length_map, List.replicate, List.cons_append, List.nil_append, List.getElem?_cons_zero, List.getElem?_cons_succ, List.getElem?_nil, Nat.reduceSub, Nat.reduceAdd, Nat.zero_add, List.set_cons_zero, List.set_cons_succ, Bool.not_true, Bool.not_false, if_true, if_false, Bool.false_eq_true, eq_int, ne_int, eq_bl, ne_bl, le_int, lt_int, ge_int, gt_int, sub_int, add_int, neg_int, abs_int])
  rw [C_law_2, e]
  rfl
theorem st8_ok (c : Cv) : st8 (EL sc s5 .un (.val rows1) .un .un s10 s11 s12 s13 s14 s15) c = .nx (EL sc s5 .un (.val rows1) .un .un s10 s11 s12 s13 s14 s15) c := by
  have e1 := sp_C_law_2 (sc := sc) (s5 := s5) (s10 := s10) (s11 := s11) (s12 := s12) (s13 := s13) (s14 := s14) (s15 := s15) c
  have e2 := ne_self (d := .lst [.bl true, .bl false, .bl true]) (by rfl) c
  have e3 := ne_self (d := IT lo) (by decide +kernel) c
  have e4 := cc3 (m := 0) (by decide) (by decide) c
  simp [st8, e1, e2, e3, e4, le24, oSome, oNone, eSl, vSl, runF, env0, sSeq, sIf, sRet, sVal, sDrop, sPars, sUnp, sNext, sRetN, sRaise, mVal, mOwn, mNil, setE, eVar, eVarB, eK, eB1, eB2, eTup, eLst, aNil, aCons, bd_ok, bd_exn, sb_ok, sb_exn, tV, tAnd, tOr, tNot, eAnd, eOr, eNot, eIf, eChain, callS, List.map_cons, List.map_nil, List.length_cons, List.length_nil, List.length_map, List.replicate, List.cons_append, List.nil_append, List.getElem?_cons_zero, List.getElem?_cons_succ, List.getElem?_nil, Nat.reduceSub, Nat.reduceAdd, Nat.zero_add, List.set_cons_zero, List.set_cons_succ, Bool.not_true, Bool.not_false, if_true, if_false, Bool.false_eq_true, eq_int, ne_int, eq_bl, ne_bl, le_int, lt_int, ge_int, gt_int, sub_int, add_int, neg_int, abs_int]
def nine : List Int := [9, 0, 9, 0, 9, 0, 9, 0]
def los : List Int := [0, 0, 0, 0, 0, 0, 0]
abbrev rows2 : List Va := [.tup [.non, IT lo, IT lo, .int 0], .tup [Gr, .non, IT lo, .int 0], .tup [Gr, IT lo, IT los, .int 0], .tup [Gr, IT lo, IT nine, .int 0]]
abbrev rows3 : List Va := [.tup [Gr, IT lo, IT lo, .int 10], .tup [Gr, IT lo, IT lo, .int (-1)], .tup [Gr, IT lo, IT lo, .bl true], .tup [Gr, IT lo, IT lo, .int 9]]
theorem st9_ok (c : Cv) : st9 (EL sc s5 .un s7 s8 s9 s10 s11 s12 s13 s14 s15) c = .nx (EL sc s5 .un (.val (.lst rows2)) s8 s9 s10 s11 s12 s13 s14 s15) c := by
  have e1 : vMulW (.tup [.int 9, .int 0]) (.int 4) c = .ok (IT nine) c := by rfl
  have e2 : cutA (lo.map Va.int) (some 1) none = los.map Va.int := by rfl
  simp [st9, eSl, e1, e2, sl_tup, le24, oSome, oNone, eSl, vSl, runF, env0, sSeq, sIf, sRet, sVal, sDrop, sPars, sUnp, sNext, sRetN, sRaise, mVal, mOwn, mNil, setE, eVar, eVarB, eK, eB1, eB2, eTup, eLst, aNil, aCons, bd_ok, bd_exn, sb_ok, sb_exn, tV, tAnd, tOr, tNot, eAnd, eOr, eNot, eIf, eChain, callS, List.map_cons, List.map_nil, List.length_cons, List.length_nil, List.length_map, List.replicate, List.cons_append, List.nil_append, List.getElem?_cons_zero, List.getElem?_cons_succ, List.getElem?_nil, Nat.reduceSub, Nat.reduceAdd, Nat.zero_add, List.set_cons_zero, List.set_cons_succ, Bool.not_true, Bool.not_false, if_true, if_false, Bool.false_eq_true, eq_int, ne_int, eq_bl, ne_bl, le_int, lt_int, ge_int, gt_int, sub_int, add_int, neg_int, abs_int]
theorem sp_C_law_3 (c : Cv) : C_law_3 (EL sc s5 .un s7 s8 s9 s10 s11 s12 s13 s14 s15) c = .ok (.lst rows3) c := by
  have e := eLc_map (t := tN) (is := [6]) (vs := [6]) (tt := tYesS) (f := eTup (aCons (eVar 2) (aCons (eVar 3) (aCons (eVar 3) (aCons (eVar 6) aNil))))) (fi := (iVal (eTup (aCons (eK (.int 10)) (aCons (eB1 (eK (.int 1)) vNeg) (aCons (eK (.bl true)) (aCons (eK (.int 9)) aNil))))))) (env := EL sc s5 .un s7 s8 s9 s10 s11 s12 s13 s14 s15) (c := c) (c1 := c)
    (fun q : Va => q) (fun q => .tup [Gr, IT lo, IT lo, q]) [.int 10, .int (-1), .bl true, .int 9]
    (by simp [iVal, vIt, le24, oSome, oNone, eSl, vSl, runF, env0, sSeq, sIf, sRet, sVal, sDrop, sPars, sUnp, sNext, sRetN, sRaise, mVal, mOwn, mNil, setE, eVar, eVarB, eK, eB1, eB2, eTup, eLst, aNil, aCons, bd_ok, bd_exn, sb_ok, sb_exn, tV, tAnd, tOr, tNot, eAnd, eOr, eNot, eIf, eChain, callS, List.map_cons, List.map_nil, List.length_cons, List.length_nil, List.length_map, List.replicate, List.cons_append, List.nil_append, List.getElem?_cons_zero, List.getElem?_cons_succ, List.getElem?_nil, Nat.reduceSub, Nat.reduceAdd, Nat.zero_add, List.set_cons_zero, List.set_cons_succ, Bool.not_true, Bool.not_false, if_true, if_false, Bool.false_eq_true, eq_int, ne_int, eq_bl, ne_bl, le_int, lt_int, ge_int, gt_int, sub_int, add_int, neg_int, abs_int]) (l24_of (by simp)) (by simp [ownFree]) fun q hq => lcS_yes rfl (by
      simp [wipeE, le24, oSome, oNone, eSl, vSl, runF, env0, sSeq, sIf, sRet, sVal, sDrop, sPars, sUnp, sNext, sRetN, sRaise, mVal, mOwn, mNil, setE, eVar, eVarB, eK, eB1, eB2, eTup, eLst, aNil, aCons, bd_ok, bd_exn, sb_ok, sb_exn, tV, tAnd, tOr, tNot, eAnd, eOr, eNot, eIf, eChain, callS, List.map_cons, List.map_nil, List.length_cons, List.length_nil, List.length_map, List.replicate, List.cons_append, List.nil_append, List.getElem?_cons_zero, List.getElem?_cons_succ, List.getElem?_nil, Nat.reduceSub, Nat.reduceAdd, Nat.zero_add, List.set_cons_zero, List.set_cons_succ, Bool.not_true, Bool.not_false, if_true, if_false, Bool.false_eq_true, eq_int, ne_int, eq_bl, ne_bl, le_int, lt_int, ge_int, gt_int, sub_int, add_int, neg_int, abs_int])
  rw [C_law_3, e]
  rfl
theorem st10_ok (c : Cv) : st10 (EL sc s5 .un (.val (.lst rows2)) s8 s9 s10 s11 s12 s13 s14 s15) c = .nx (EL sc s5 .un (.val (.lst (rows2 ++ rows3))) s8 s9 s10 s11 s12 s13 s14 s15) c := by
  have e := sp_C_law_3 (sc := sc) (s5 := s5) (s7 := .val (.lst rows2)) (s8 := s8) (s9 := s9) (s10 := s10) (s11 := s11) (s12 := s12) (s13 := s13) (s14 := s14) (s15 := s15) c
  simp [st10, e, add_lst, oSome, oNone, eSl, vSl, runF, env0, sSeq, sIf, sRet, sVal, sDrop, sPars, sUnp, sNext, sRetN, sRaise, mVal, mOwn, mNil, setE, eVar, eVarB, eK, eB1, eB2, eTup, eLst, aNil, aCons, bd_ok, bd_exn, sb_ok, sb_exn, tV, tAnd, tOr, tNot, eAnd, eOr, eNot, eIf, eChain, callS, List.map_cons, List.map_nil, List.length_cons, List.length_nil, List.length_map, List.replicate, List.cons_append, List.nil_append, List.getElem?_cons_zero, List.getElem?_cons_succ, List.getElem?_nil, Nat.reduceSub, Nat.reduceAdd, Nat.zero_add, List.set_cons_zero, List.set_cons_succ, Bool.not_true, Bool.not_false, if_true, if_false, Bool.false_eq_true, eq_int, ne_int, eq_bl, ne_bl, le_int, lt_int, ge_int, gt_int, sub_int, add_int, neg_int, abs_int]
end
end G

set_option Elab.async false
set_option linter.all false
set_option maxRecDepth 100000
set_option maxHeartbeats 8000000
namespace G
set_option autoImplicit false
open PySem PySem.Spec PyProof.Rows L2
section
variable {sc : Va} {s5 s6 s7 s8 s9 s10 s11 s12 s13 s14 s15 : Sl}
theorem cnX {k o f : Va} {e : Exn} (c : Cv) (h : F_need_two [Gr, k, o, f] c = .exn e c) : F_copies_needed [Gr, k, o, f] c = .exn e c := by
  simp [F_copies_needed, B_copies_needed, h, oSome, oNone, eSl, vSl, runF, env0, sSeq, sIf, sRet, sVal, sDrop, sPars, sUnp, sNext, sRetN, sRaise, mVal, mOwn, mNil, setE, eVar, eVarB, eK, eB1, eB2, eTup, eLst, aNil, aCons, bd_ok, bd_exn, sb_ok, sb_exn, tV, tAnd, tOr, tNot, eAnd, eOr, eNot, eIf, eChain, callS, List.map_cons, List.map_nil, List.length_cons, List.length_nil, List.length_map, List.replicate, List.cons_append, List.nil_append, List.getElem?_cons_zero, List.getElem?_cons_succ, List.getElem?_nil, Nat.reduceSub, Nat.reduceAdd, Nat.zero_add, List.set_cons_zero, List.set_cons_succ, Bool.not_true, Bool.not_false, if_true, if_false, Bool.false_eq_true, eq_int, ne_int, eq_bl, ne_bl, le_int, lt_int, ge_int, gt_int, sub_int, add_int, neg_int, abs_int]
theorem cn1 (c : Cv) : F_copies_needed [.non, IT lo, IT lo, .int 0] c = .exn ⟨"InvalidMake", []⟩ c := by
  simp [F_copies_needed, B_copies_needed, sp_need_two_no, oSome, oNone, eSl, vSl, runF, env0, sSeq, sIf, sRet, sVal, sDrop, sPars, sUnp, sNext, sRetN, sRaise, mVal, mOwn, mNil, setE, eVar, eVarB, eK, eB1, eB2, eTup, eLst, aNil, aCons, bd_ok, bd_exn, sb_ok, sb_exn, tV, tAnd, tOr, tNot, eAnd, eOr, eNot, eIf, eChain, callS, List.map_cons, List.map_nil, List.length_cons, List.length_nil, List.length_map, List.replicate, List.cons_append, List.nil_append, List.getElem?_cons_zero, List.getElem?_cons_succ, List.getElem?_nil, Nat.reduceSub, Nat.reduceAdd, Nat.zero_add, List.set_cons_zero, List.set_cons_succ, Bool.not_true, Bool.not_false, if_true, if_false, Bool.false_eq_true, eq_int, ne_int, eq_bl, ne_bl, le_int, lt_int, ge_int, gt_int, sub_int, add_int, neg_int, abs_int]
theorem cn2 (c : Cv) : F_copies_needed [Gr, .non, IT lo, .int 0] c = .exn ⟨"InvalidKey", []⟩ c := cnX c (by
  rw [sp_need_two gG rfl (pl_IT lo) rfl]; rfl)
theorem cn3 (c : Cv) : F_copies_needed [Gr, IT lo, IT los, .int 0] c = .exn ⟨"InvalidKey", []⟩ c := cnX c (by
  rw [sp_need_two gG (pl_IT lo) (pl_IT los) rfl, kL.fits, show fitsK 8 10 1 (IT los) = false by decide +kernel]; rfl)
theorem cn4 (c : Cv) : F_copies_needed [Gr, IT lo, IT nine, .int 0] c = .exn ⟨"InvalidKey", []⟩ c := cnX c (by
  rw [sp_need_two gG (pl_IT lo) (pl_IT nine) rfl, kL.fits, show fitsK 8 10 1 (IT nine) = false by decide +kernel]; rfl)
theorem cn5 {f : Va} (hf : pl f = true) (h : inI 0 9 f = false) (c : Cv) : F_copies_needed [Gr, IT lo, IT lo, f] c = .exn ⟨"InvalidNumber", []⟩ c := cnX c (by
  rw [sp_need_two gG (pl_IT lo) (pl_IT lo) hf, kL.fits, h]; rfl)
theorem cn6 (c : Cv) : F_copies_needed [Gr, IT lo, IT lo, .int 9] c = .ok (.int 0) c := by
  rw [sp_copies_needed gG kL kL (by decide) (by decide), show far lo lo = 0 by decide]; rfl
theorem cmX {m : Va} (hm : pl m = true) (h : inI 0 100 m = false) (c : Cv) : F_common_copy [Gr, IT lo, IT lo, .int 0, m] c = .exn ⟨"InvalidNumber", []⟩ c := by
  have e := sp_need_copies hm c
  rw [h] at e
  simp [F_common_copy, B_common_copy, sp_need_two_ok gG kL kL, e, oSome, oNone, eSl, vSl, runF, env0, sSeq, sIf, sRet, sVal, sDrop, sPars, sUnp, sNext, sRetN, sRaise, mVal, mOwn, mNil, setE, eVar, eVarB, eK, eB1, eB2, eTup, eLst, aNil, aCons, bd_ok, bd_exn, sb_ok, sb_exn, tV, tAnd, tOr, tNot, eAnd, eOr, eNot, eIf, eChain, callS, List.map_cons, List.map_nil, List.length_cons, List.length_nil, List.length_map, List.replicate, List.cons_append, List.nil_append, List.getElem?_cons_zero, List.getElem?_cons_succ, List.getElem?_nil, Nat.reduceSub, Nat.reduceAdd, Nat.zero_add, List.set_cons_zero, List.set_cons_succ, Bool.not_true, Bool.not_false, if_true, if_false, Bool.false_eq_true, eq_int, ne_int, eq_bl, ne_bl, le_int, lt_int, ge_int, gt_int, sub_int, add_int, neg_int, abs_int]
abbrev q4 (x : (Va × Va × Va × Va) × Str) : Va := .tup [x.1.1, x.1.2.1, x.1.2.2.1, x.1.2.2.2]
def cases4 : List ((Va × Va × Va × Va) × Str) := [((.non, IT lo, IT lo, .int 0), "make"), ((Gr, .non, IT lo, .int 0), "key"), ((Gr, IT lo, IT los, .int 0), "key"), ((Gr, IT lo, IT nine, .int 0), "key"), ((Gr, IT lo, IT lo, .int 10), "number"), ((Gr, IT lo, IT lo, .int (-1)), "number"), ((Gr, IT lo, IT lo, .bl true), "number"), ((Gr, IT lo, IT lo, .int 9), "")]
abbrev words1 : List Va := [.str "make", .str "key", .str "key", .str "key", .str "number", .str "number", .str "number", .str ""]
abbrev words2 : List Va := [.str "number", .str "number", .str "number", .str "number", .str ""]
theorem sp_C_law_4 (c : Cv) : C_law_4 (EL sc s5 .un (.val (.lst (rows2 ++ rows3))) s8 s9 s10 .un .un .un s14 s15) c = .ok (.lst words1) c := by
  have e := eLc_map (t := tT (tsC tN (tsC tN (tsC tN (tsC tN tsN))))) (is := [11, 12, 13, 6]) (vs := [11, 12, 13, 6]) (tt := tYesS) (f := lamE NL__law_word B__law_word (callS F_copies_needed (aCons (eVar 11) (aCons (eVar 12) (aCons (eVar 13) (aCons (eVar 6) aNil)))))) (fi := iVal (eVar 7)) (env := EL sc s5 .un (.val (.lst (rows2 ++ rows3))) s8 s9 s10 .un .un .un s14 s15) (c := c) (c1 := c)
    q4 (fun q => .str q.2) cases4
    (by simp [iVal, vIt, cases4, oSome, oNone, eSl, vSl, runF, env0, sSeq, sIf, sRet, sVal, sDrop, sPars, sUnp, sNext, sRetN, sRaise, mVal, mOwn, mNil, setE, eVar, eVarB, eK, eB1, eB2, eTup, eLst, aNil, aCons, bd_ok, bd_exn, sb_ok, sb_exn, tV, tAnd, tOr, tNot, eAnd, eOr, eNot, eIf, eChain, callS, List.map_cons, List.map_nil, List.length_cons, List.length_nil, List.length_map, List.replicate, List.cons_append, List.nil_append, List.getElem?_cons_zero, List.getElem?_cons_succ, List.getElem?_nil, Nat.reduceSub, Nat.reduceAdd, Nat.zero_add, List.set_cons_zero, List.set_cons_succ, Bool.not_true, Bool.not_false, if_true, if_false, Bool.false_eq_true, eq_int, ne_int, eq_bl, ne_bl, le_int, lt_int, ge_int, gt_int, sub_int, add_int, neg_int, abs_int]) (l24_of (by simp [cases4])) (by simp [ownFree]) fun q hq => lcS_yes (c2 := c) (t4' _ _ _ _) (by
      have hc : ∀ E : Ev, E[11]? = some (.val q.1.1) → E[12]? = some (.val q.1.2.1) → E[13]? = some (.val q.1.2.2.1) → E[6]? = some (.val q.1.2.2.2) → callS F_copies_needed (aCons (eVar 11) (aCons (eVar 12) (aCons (eVar 13) (aCons (eVar 6) aNil)))) E c = F_copies_needed [q.1.1, q.1.2.1, q.1.2.2.1, q.1.2.2.2] c := fun E h1 h2 h3 h4 => by
        simp [h1, h2, h3, h4, oSome, oNone, eSl, vSl, runF, env0, sSeq, sIf, sRet, sVal, sDrop, sPars, sUnp, sNext, sRetN, sRaise, mVal, mOwn, mNil, setE, eVar, eVarB, eK, eB1, eB2, eTup, eLst, aNil, aCons, bd_ok, bd_exn, sb_ok, sb_exn, tV, tAnd, tOr, tNot, eAnd, eOr, eNot, eIf, eChain, callS, List.map_cons, List.map_nil, List.length_cons, List.length_nil, List.length_map, List.replicate, List.cons_append, List.nil_append, List.getElem?_cons_zero, List.getElem?_cons_succ, List.getElem?_nil, Nat.reduceSub, Nat.reduceAdd, Nat.zero_add, List.set_cons_zero, List.set_cons_succ, Bool.not_true, Bool.not_false, if_true, if_false, Bool.false_eq_true, eq_int, ne_int, eq_bl, ne_bl, le_int, lt_int, ge_int, gt_int, sub_int, add_int, neg_int, abs_int]
      have hc := hc (setE (wipeE (EL sc s5 .un (.val (.lst (rows2 ++ rows3))) s8 s9 s10 .un .un .un s14 s15) [11, 12, 13, 6]) [11, 12, 13, 6] (List.map .val [q.1.1, q.1.2.1, q.1.2.2.1, q.1.2.2.2])) rfl rfl rfl rfl
      simp only [cases4, List.mem_cons, List.not_mem_nil, or_false] at hq
      rcases hq with e | e | e | e | e | e | e | e <;> subst e
      · exact word_make (hc.trans (cn1 c))
      · exact word_key (hc.trans (cn2 c))
      · exact word_key (hc.trans (cn3 c))
      · exact word_key (hc.trans (cn4 c))
      · exact word_number (hc.trans (cn5 rfl rfl c))
      · exact word_number (hc.trans (cn5 rfl rfl c))
      · exact word_number (hc.trans (cn5 rfl rfl c))
      · exact word_ok (hc.trans (cn6 c)))
  rw [C_law_4, e]
  rfl
theorem st11_ok (c : Cv) : st11 (EL sc s5 .un (.val (.lst (rows2 ++ rows3))) s8 s9 s10 .un .un .un s14 s15) c = .nx (EL sc s5 .un (.val (.lst (rows2 ++ rows3))) s8 s9 (.val (.lst words1)) .un .un .un s14 s15) c := by
  have e := sp_C_law_4 (sc := sc) (s5 := s5) (s8 := s8) (s9 := s9) (s10 := s10) (s14 := s14) (s15 := s15) c
  unfold st11 sVal
  rw [e]; rfl
theorem sp_C_law_5 (c : Cv) : C_law_5 (EL sc s5 .un s7 s8 s9 s10 s11 s12 s13 .un s15) c = .ok (.lst words2) c := by
  have e := eLc_map (t := tN) (is := [14]) (vs := [14]) (tt := tYesS) (f := lamE NL__law_word B__law_word (callS F_common_copy (aCons (eVar 2) (aCons (eVar 3) (aCons (eVar 3) (aCons (eK (.int 0)) (aCons (eVar 14) aNil))))))) (fi := iVal (eTup (aCons (eK (.int 101)) (aCons (eB1 (eK (.int 1)) vNeg) (aCons (eK (.bl true)) (aCons (eK .non) (aCons (eK (.int 100)) aNil))))))) (env := EL sc s5 .un s7 s8 s9 s10 s11 s12 s13 .un s15) (c := c) (c1 := c)
    (fun q : Va × Str => q.1) (fun q => .str q.2) [(.int 101, "number"), (.int (-1), "number"), (.bl true, "number"), (.non, "number"), (.int 100, "")]
    (by simp [iVal, vIt, le24, oSome, oNone, eSl, vSl, runF, env0, sSeq, sIf, sRet, sVal, sDrop, sPars, sUnp, sNext, sRetN, sRaise, mVal, mOwn, mNil, setE, eVar, eVarB, eK, eB1, eB2, eTup, eLst, aNil, aCons, bd_ok, bd_exn, sb_ok, sb_exn, tV, tAnd, tOr, tNot, eAnd, eOr, eNot, eIf, eChain, callS, List.map_cons, List.map_nil, List.length_cons, List.length_nil, List.length_map, List.replicate, List.cons_append, List.nil_append, List.getElem?_cons_zero, List.getElem?_cons_succ, List.getElem?_nil, Nat.reduceSub, Nat.reduceAdd, Nat.zero_add, List.set_cons_zero, List.set_cons_succ, Bool.not_true, Bool.not_false, if_true, if_false, Bool.false_eq_true, eq_int, ne_int, eq_bl, ne_bl, le_int, lt_int, ge_int, gt_int, sub_int, add_int, neg_int, abs_int]) (l24_of (by simp)) (by simp [ownFree]) fun q hq => lcS_yes (c2 := c) rfl (by
      have hc : ∀ E : Ev, E[2]? = some (.val Gr) → E[3]? = some (.val (IT lo)) → E[14]? = some (.val q.1) → callS F_common_copy (aCons (eVar 2) (aCons (eVar 3) (aCons (eVar 3) (aCons (eK (.int 0)) (aCons (eVar 14) aNil))))) E c = F_common_copy [Gr, IT lo, IT lo, .int 0, q.1] c := fun E h1 h2 h3 => by
        simp [h1, h2, h3, oSome, oNone, eSl, vSl, runF, env0, sSeq, sIf, sRet, sVal, sDrop, sPars, sUnp, sNext, sRetN, sRaise, mVal, mOwn, mNil, setE, eVar, eVarB, eK, eB1, eB2, eTup, eLst, aNil, aCons, bd_ok, bd_exn, sb_ok, sb_exn, tV, tAnd, tOr, tNot, eAnd, eOr, eNot, eIf, eChain, callS, List.map_cons, List.map_nil, List.length_cons, List.length_nil, List.length_map, List.replicate, List.cons_append, List.nil_append, List.getElem?_cons_zero, List.getElem?_cons_succ, List.getElem?_nil, Nat.reduceSub, Nat.reduceAdd, Nat.zero_add, List.set_cons_zero, List.set_cons_succ, Bool.not_true, Bool.not_false, if_true, if_false, Bool.false_eq_true, eq_int, ne_int, eq_bl, ne_bl, le_int, lt_int, ge_int, gt_int, sub_int, add_int, neg_int, abs_int]
      have hc := hc (setE (wipeE (EL sc s5 .un s7 s8 s9 s10 s11 s12 s13 .un s15) [14]) [14] (List.map .val [q.1])) rfl rfl rfl
      simp only [List.mem_cons, List.not_mem_nil, or_false] at hq
      rcases hq with e | e | e | e | e <;> subst e
      · exact word_number (hc.trans (cmX rfl rfl c))
      · exact word_number (hc.trans (cmX rfl rfl c))
      · exact word_number (hc.trans (cmX rfl rfl c))
      · exact word_number (hc.trans (cmX rfl rfl c))
      · exact word_ok (hc.trans (cc3 (by decide) (by decide) c)))
  rw [C_law_5, e]
  rfl
theorem st12_ok (c : Cv) : st12 (EL sc s5 .un s7 s8 s9 (.val (.lst words1)) s11 s12 s13 .un s15) c = .nx (EL sc s5 .un s7 s8 s9 (.val (.lst (words1 ++ words2))) s11 s12 s13 .un s15) c := by
  have e := sp_C_law_5 (sc := sc) (s5 := s5) (s7 := s7) (s8 := s8) (s9 := s9) (s10 := .val (.lst words1)) (s11 := s11) (s12 := s12) (s13 := s13) (s15 := s15) c
  simp [st12, e, add_lst, oSome, oNone, eSl, vSl, runF, env0, sSeq, sIf, sRet, sVal, sDrop, sPars, sUnp, sNext, sRetN, sRaise, mVal, mOwn, mNil, setE, eVar, eVarB, eK, eB1, eB2, eTup, eLst, aNil, aCons, bd_ok, bd_exn, sb_ok, sb_exn, tV, tAnd, tOr, tNot, eAnd, eOr, eNot, eIf, eChain, callS, List.map_cons, List.map_nil, List.length_cons, List.length_nil, List.length_map, List.replicate, List.cons_append, List.nil_append, List.getElem?_cons_zero, List.getElem?_cons_succ, List.getElem?_nil, Nat.reduceSub, Nat.reduceAdd, Nat.zero_add, List.set_cons_zero, List.set_cons_succ, Bool.not_true, Bool.not_false, if_true, if_false, Bool.false_eq_true, eq_int, ne_int, eq_bl, ne_bl, le_int, lt_int, ge_int, gt_int, sub_int, add_int, neg_int, abs_int]
theorem st13_ok (c : Cv) : st13 (EL sc s5 .un s7 s8 s9 (.val (.lst (words1 ++ words2))) s11 s12 s13 s14 s15) c = .nx (EL sc s5 .un s7 s8 s9 (.val (.lst (words1 ++ words2))) s11 s12 s13 s14 s15) c := by
  have e1 : vMulW (.lst [.str "number"]) (.int 4) c = .ok (.lst [.str "number", .str "number", .str "number", .str "number"]) c := by
    simp [vMulW, vMul, repL, le24]
  have e2 := ne_self (d := .lst (words1 ++ words2)) (by rfl) c
  simp only [List.cons_append, List.nil_append] at e2
  simp [st13, e1, e2, add_lst, le24, oSome, oNone, eSl, vSl, runF, env0, sSeq, sIf, sRet, sVal, sDrop, sPars, sUnp, sNext, sRetN, sRaise, mVal, mOwn, mNil, setE, eVar, eVarB, eK, eB1, eB2, eTup, eLst, aNil, aCons, bd_ok, bd_exn, sb_ok, sb_exn, tV, tAnd, tOr, tNot, eAnd, eOr, eNot, eIf, eChain, callS, List.map_cons, List.map_nil, List.length_cons, List.length_nil, List.length_map, List.replicate, List.cons_append, List.nil_append, List.getElem?_cons_zero, List.getElem?_cons_succ, List.getElem?_nil, Nat.reduceSub, Nat.reduceAdd, Nat.zero_add, List.set_cons_zero, List.set_cons_succ, Bool.not_true, Bool.not_false, if_true, if_false, Bool.false_eq_true, eq_int, ne_int, eq_bl, ne_bl, le_int, lt_int, ge_int, gt_int, sub_int, add_int, neg_int, abs_int]
/-! ### the turns -/
theorem turn_ok {c : Cv} (hc : CupOk c) : ∃ (t6 t11 t12 t13 : Sl) (c' : Cv), L_law_1 (EL sc s5 s6 s7 s8 s9 s10 s11 s12 s13 s14 s15) c = .nx (EL sc s5 t6 s7 s8 s9 s10 t11 t12 t13 s14 s15) c' ∧ CupOk c' := by
  obtain ⟨p, h, s, c1, e1, g, hc1⟩ := sp__law_make hc
  obtain ⟨k, c2, e2, kk, hc2⟩ := sp__law_key g hc1
  obtain ⟨o, c3, e3, ko, hc3⟩ := sp__law_key g hc2
  obtain ⟨d, c4, e4, hd, hc4⟩ := sp__law_some hc3 (ds := [.int 0, .int 1, .int 1, .int 2, .int 3, .int 9]) (by simp) (by simp)
  obtain ⟨f, rfl, f0, f9⟩ : ∃ f : Int, d = .int f ∧ 0 ≤ f ∧ f ≤ 9 := by
    simp only [List.mem_cons, List.not_mem_nil, or_false] at hd
    rcases hd with e | e | e | e | e | e <;> exact ⟨_, e, by decide, by decide⟩
  obtain ⟨d2, c5, e5, hd2, hc5⟩ := sp__law_some hc4 (ds := [IT o, IT o, IT k]) (by simp) (by simp)
  obtain ⟨o2, rfl, ko2⟩ : ∃ o2 : List Int, d2 = IT o2 ∧ Ky p h s o2 := by
    simp only [List.mem_cons, List.not_mem_nil, or_false] at hd2
    rcases hd2 with e | e | e
    · exact ⟨o, e, ko⟩
    · exact ⟨o, e, ko⟩
    · exact ⟨k, e, kk⟩
  obtain ⟨c6, e6, hc6⟩ := sp__law_right g kk ko2 f0 f9 hc5
  obtain ⟨c7, e7, hc7⟩ := sp__law_common_right g kk ko2 f0 f9 hc6
  refine ⟨.val (.int f), .val (mkV p h s), .val (IT k), .val (IT o2), c7, ?_, hc7⟩
  simp [L_law_1, e1, e2, e3, e4, e5, e6, e7, le24, oSome, oNone, eSl, vSl, runF, env0, sSeq, sIf, sRet, sVal, sDrop, sPars, sUnp, sNext, sRetN, sRaise, mVal, mOwn, mNil, setE, eVar, eVarB, eK, eB1, eB2, eTup, eLst, aNil, aCons, bd_ok, bd_exn, sb_ok, sb_exn, tV, tAnd, tOr, tNot, eAnd, eOr, eNot, eIf, eChain, callS, List.map_cons, List.map_nil, List.length_cons, List.length_nil, List.length_map, List.replicate, List.cons_append, List.nil_append, List.getElem?_cons_zero, List.getElem?_cons_succ, List.getElem?_nil, Nat.reduceSub, Nat.reduceAdd, Nat.zero_add, List.set_cons_zero, List.set_cons_succ, Bool.not_true, Bool.not_false, if_true, if_false, Bool.false_eq_true, eq_int, ne_int, eq_bl, ne_bl, le_int, lt_int, ge_int, gt_int, sub_int, add_int, neg_int, abs_int]
theorem st14_ok {c : Cv} (hc : CupOk c) : ∃ (E : Ev) (c' : Cv), st14 (EL sc s5 s6 s7 s8 s9 s10 s11 s12 s13 s14 s15) c = .nx E c' := by
  have key := forL_inv (t := tN) (is := [15]) (body := L_law_1) (fun (t : Nat) => Va.int (t : Int))
    (fun _ env c => CupOk c ∧ ∃ (s6 s11 s12 s13 s15 : Sl), env = EL sc s5 s6 s7 s8 s9 s10 s11 s12 s13 s14 s15)
    (fun z => ∃ (E : Ev) (c' : Cv), z = .nx E c')
    (List.range 10) (EL sc s5 s6 s7 s8 s9 s10 s11 s12 s13 s14 s15) c
    ⟨hc, s6, s11, s12, s13, s15, rfl⟩
    (by
      rintro x rest env c ⟨hc, s6, s11, s12, s13, s15, rfl⟩
      obtain ⟨t6, t11, t12, t13, c', e, hc'⟩ := turn_ok (sc := sc) (s5 := s5) (s6 := s6) (s7 := s7) (s8 := s8) (s9 := s9) (s10 := s10) (s11 := s11) (s12 := s12) (s13 := s13) (s14 := s14) (s15 := .val (.int (x : Int))) hc
      exact ⟨[.int x], rfl, .inl ⟨_, c', .inl e, hc', t6, t11, t12, t13, _, rfl⟩⟩)
    (by
      rintro env c ⟨hc, _⟩
      exact ⟨env, c, rfl⟩)
  obtain ⟨E, c', e3⟩ := key
  refine ⟨E, c', ?_⟩
  have hr : iRange1 (eK (.int 10)) (EL sc s5 s6 s7 s8 s9 s10 s11 s12 s13 s14 s15) c = .ok ((List.range 10).map fun (t : Nat) => Va.int (t : Int)) c := rng (a := 10) (m := 10) rfl (by omega) _ _ _ rfl
  unfold st14 sFor
  rw [hr]
  exact e3
end
theorem sem_law (ns : List Int) (hl : ns.length ≤ 63) (hz : ∀ z ∈ ns, PySem.Builtin.Int.intBits z ≤ 1048576) : ∃ c, F_law [.scr ns] none = .ok (.bl true) c := by
  obtain ⟨x, y, e1, y0, y1⟩ := sp__law_cup ns none hl
  have hc : CupOk (some (x, y)) := ⟨x, y, rfl, y0, y1⟩
  obtain ⟨E, c', e14⟩ := st14_ok (sc := .scr ns) (s5 := .val told2) (s6 := .un) (s7 := .val (.lst (rows2 ++ rows3))) (s8 := .un) (s9 := .un) (s10 := .val (.lst (words1 ++ words2))) (s11 := .un) (s12 := .un) (s13 := .un) (s14 := .un) (s15 := .un) hc
  refine ⟨none, ?_⟩
  have inn : ∀ (A B : SS) (E E' : Ev) (c c' : Cv), A E c = .nx E' c' → sSeq A B E c = B E' c' := fun A B E E' c c' h => by simp only [sSeq, h]
  have main : (sSeq st1 (sSeq st2 (sSeq st3 (sSeq st4 (sSeq st5 (sSeq st6 (sSeq st7 (sSeq st8 (sSeq st9 (sSeq st10 (sSeq st11 (sSeq st12 (sSeq st13 (sSeq st14 (sRet (eK (.bl true))))))))))))))))) [.val (.scr ns), .val .cup, .un, .un, .un, .un, .un, .un, .un, .un, .un, .un, .un, .un, .un, .un] (some (x, y)) = .rt (.bl true) c' := by
    rw [inn _ _ _ _ _ _ (st1_ok _ _ _ _), inn _ _ _ _ _ _ (st2_ok _), inn _ _ _ _ _ _ (st3_ok _), inn _ _ _ _ _ _ (st4_ok _), inn _ _ _ _ _ _ (st5_ok _), inn _ _ _ _ _ _ (st6_ok _), inn _ _ _ _ _ _ (st7_ok _), inn _ _ _ _ _ _ (st8_ok _), inn _ _ _ _ _ _ (st9_ok _), inn _ _ _ _ _ _ (st10_ok _), inn _ _ _ _ _ _ (st11_ok _), inn _ _ _ _ _ _ (st12_ok _), inn _ _ _ _ _ _ (st13_ok _), inn _ _ _ _ _ _ e14]
    rfl
  rw [show F_law = runF 16 false B_law from rfl, B_law_eq]
  generalize (sSeq st1 (sSeq st2 (sSeq st3 (sSeq st4 (sSeq st5 (sSeq st6 (sSeq st7 (sSeq st8 (sSeq st9 (sSeq st10 (sSeq st11 (sSeq st12 (sSeq st13 (sSeq st14 (sRet (eK (.bl true))))))))))))))))) = Z at main
  simp [sOwn, sCup, e1, main, oSome, oNone, eSl, vSl, runF, env0, sSeq, sIf, sRet, sVal, sDrop, sPars, sUnp, sNext, sRetN, sRaise, mVal, mOwn, mNil, setE, eVar, eVarB, eK, eB1, eB2, eTup, eLst, aNil, aCons, bd_ok, bd_exn, sb_ok, sb_exn, tV, tAnd, tOr, tNot, eAnd, eOr, eNot, eIf, eChain, callS, List.map_cons, List.map_nil, List.length_cons, List.length_nil, List.length_map, List.replicate, List.cons_append, List.nil_append, List.getElem?_cons_zero, List.getElem?_cons_succ, List.getElem?_nil, Nat.reduceSub, Nat.reduceAdd, Nat.zero_add, List.set_cons_zero, List.set_cons_succ, Bool.not_true, Bool.not_false, if_true, if_false, Bool.false_eq_true, eq_int, ne_int, eq_bl, ne_bl, le_int, lt_int, ge_int, gt_int, sub_int, add_int, neg_int, abs_int]
end G

set_option Elab.async false
set_option linter.all false
set_option maxRecDepth 100000
set_option maxHeartbeats 0
namespace G
set_option autoImplicit false
open PySem PySem.Spec PyProof.Rows L2
theorem all_mk {l : PySem.W.OpenLaw} {w : World} {K : PySem.W.Frag} {h : Heap} {mg : Str → Option Value} {fa : Addr} (X : K.In h) (G : h.Ns mainGlobals mg) (hfa : mg "law" = some (.ref fa))
    {f0 : Addr} {oc0 : Value} {od0 : Option Addr} {an0 : Option Addr} {sl0 : Array (Option Value)} {kV0 dc0 pm0 cd0 ct0 : Value}
    {f1 : Addr} {oc1 : Value} {od1 : Option Addr} {an1 : Option Addr} {sl1 : Array (Option Value)} {kV1 dc1 pm1 cd1 ct1 : Value}
    {f2 : Addr} {oc2 : Value} {od2 : Option Addr} {an2 : Option Addr} {sl2 : Array (Option Value)} {kV2 dc2 pm2 cd2 ct2 : Value}
    {f3 : Addr} {oc3 : Value} {od3 : Option Addr} {an3 : Option Addr} {sl3 : Array (Option Value)} {kV3 dc3 pm3 cd3 ct3 : Value}
    {f4 : Addr} {oc4 : Value} {od4 : Option Addr} {an4 : Option Addr} {sl4 : Array (Option Value)} {kV4 dc4 pm4 cd4 ct4 : Value}
    {f5 : Addr} {oc5 : Value} {od5 : Option Addr} {an5 : Option Addr} {sl5 : Array (Option Value)} {kV5 dc5 pm5 cd5 ct5 : Value}
    {f6 : Addr} {oc6 : Value} {od6 : Option Addr} {an6 : Option Addr} {sl6 : Array (Option Value)} {kV6 dc6 pm6 cd6 ct6 : Value}
    {f7 : Addr} {oc7 : Value} {od7 : Option Addr} {an7 : Option Addr} {sl7 : Array (Option Value)} {kV7 dc7 pm7 cd7 ct7 : Value}
    {f8 : Addr} {oc8 : Value} {od8 : Option Addr} {an8 : Option Addr} {sl8 : Array (Option Value)} {kV8 dc8 pm8 cd8 ct8 : Value}
    {f9 : Addr} {oc9 : Value} {od9 : Option Addr} {an9 : Option Addr} {sl9 : Array (Option Value)} {kV9 dc9 pm9 cd9 ct9 : Value}
    {f10 : Addr} {oc10 : Value} {od10 : Option Addr} {an10 : Option Addr} {sl10 : Array (Option Value)} {kV10 dc10 pm10 cd10 ct10 : Value}
    {f11 : Addr} {oc11 : Value} {od11 : Option Addr} {an11 : Option Addr} {sl11 : Array (Option Value)} {kV11 dc11 pm11 cd11 ct11 : Value}
    {f12 : Addr} {oc12 : Value} {od12 : Option Addr} {an12 : Option Addr} {sl12 : Array (Option Value)} {kV12 dc12 pm12 cd12 ct12 : Value}
    {f13 : Addr} {oc13 : Value} {od13 : Option Addr} {an13 : Option Addr} {sl13 : Array (Option Value)} {kV13 dc13 pm13 cd13 ct13 : Value}
    {f14 : Addr} {oc14 : Value} {od14 : Option Addr} {an14 : Option Addr} {sl14 : Array (Option Value)} {kV14 dc14 pm14 cd14 ct14 : Value}
    {f15 : Addr} {oc15 : Value} {od15 : Option Addr} {an15 : Option Addr} {sl15 : Array (Option Value)} {kV15 dc15 pm15 cd15 ct15 : Value}
    {f16 : Addr} {oc16 : Value} {od16 : Option Addr} {an16 : Option Addr} {sl16 : Array (Option Value)} {kV16 dc16 pm16 cd16 ct16 : Value}
    {f17 : Addr} {oc17 : Value} {od17 : Option Addr} {an17 : Option Addr} {sl17 : Array (Option Value)} {kV17 dc17 pm17 cd17 ct17 : Value}
    {f18 : Addr} {oc18 : Value} {od18 : Option Addr} {an18 : Option Addr} {sl18 : Array (Option Value)} {kV18 dc18 pm18 cd18 ct18 : Value}
    {f19 : Addr} {oc19 : Value} {od19 : Option Addr} {an19 : Option Addr} {sl19 : Array (Option Value)} {kV19 dc19 pm19 cd19 ct19 : Value}
    {f20 : Addr} {oc20 : Value} {od20 : Option Addr} {an20 : Option Addr} {sl20 : Array (Option Value)} {kV20 dc20 pm20 cd20 ct20 : Value}
    {f21 : Addr} {oc21 : Value} {od21 : Option Addr} {an21 : Option Addr} {sl21 : Array (Option Value)} {kV21 dc21 pm21 cd21 ct21 : Value}
    {f22 : Addr} {oc22 : Value} {od22 : Option Addr} {an22 : Option Addr} {sl22 : Array (Option Value)} {kV22 dc22 pm22 cd22 ct22 : Value}
    {f23 : Addr} {oc23 : Value} {od23 : Option Addr} {an23 : Option Addr} {sl23 : Array (Option Value)} {kV23 dc23 pm23 cd23 ct23 : Value}
    {f24 : Addr} {oc24 : Value} {od24 : Option Addr} {an24 : Option Addr} {sl24 : Array (Option Value)} {kV24 dc24 pm24 cd24 ct24 : Value}
    {f25 : Addr} {oc25 : Value} {od25 : Option Addr} {an25 : Option Addr} {sl25 : Array (Option Value)} {kV25 dc25 pm25 cd25 ct25 : Value}
    {f26 : Addr} {oc26 : Value} {od26 : Option Addr} {an26 : Option Addr} {sl26 : Array (Option Value)} {kV26 dc26 pm26 cd26 ct26 : Value}
    {f27 : Addr} {oc27 : Value} {od27 : Option Addr} {an27 : Option Addr} {sl27 : Array (Option Value)} {kV27 dc27 pm27 cd27 ct27 : Value}
    {f28 : Addr} {oc28 : Value} {od28 : Option Addr} {an28 : Option Addr} {sl28 : Array (Option Value)} {kV28 dc28 pm28 cd28 ct28 : Value}
    {f29 : Addr} {oc29 : Value} {od29 : Option Addr} {an29 : Option Addr} {sl29 : Array (Option Value)} {kV29 dc29 pm29 cd29 ct29 : Value}
    {f30 : Addr} {oc30 : Value} {od30 : Option Addr} {an30 : Option Addr} {sl30 : Array (Option Value)} {kV30 dc30 pm30 cd30 ct30 : Value}
    {f31 : Addr} {oc31 : Value} {od31 : Option Addr} {an31 : Option Addr} {sl31 : Array (Option Value)} {kV31 dc31 pm31 cd31 ct31 : Value}
    {f32 : Addr} {oc32 : Value} {od32 : Option Addr} {an32 : Option Addr} {sl32 : Array (Option Value)} {kV32 dc32 pm32 cd32 ct32 : Value}
    {f33 : Addr} {oc33 : Value} {od33 : Option Addr} {an33 : Option Addr} {sl33 : Array (Option Value)} {kV33 dc33 pm33 cd33 ct33 : Value}
    {f34 : Addr} {oc34 : Value} {od34 : Option Addr} {an34 : Option Addr} {sl34 : Array (Option Value)} {kV34 dc34 pm34 ct34 : Value}
    {cc34 P34 : Addr}
    {C_InvalidKey : Addr}
    {C_InvalidMake : Addr}
    {C_InvalidNumber : Addr}
    {C_PinsError : Addr}
    {C_TooMany : Addr}
    {t_COPIES : Tok}
    {t_FAULT : Tok}
    {t_HEIGHTS : Tok}
    {t_PLACES : Tok}
    {t_STEP : Tok}
    (na0 : PySem.W.nsIn K mainGlobals "is_whole" = some (some (.ref f0)))
    (lk0 : K.lookup f0 = some ⟨oc0, od0, .func (PySem.W.fnOf "is_whole" "is_whole" (defArgs (top 10)) (defBody (top 10)) (defScope (top 10)) .none kV0 dc0 pm0 an0 cd0 ct0), sl0⟩)
    (co0 : PySem.W.codeIn K cd0 "is_whole" = true)
    (ke0 : PySem.W.keepIn K (.ref f0) = true)
    (na1 : PySem.W.nsIn K mainGlobals "fits_whole" = some (some (.ref f1)))
    (lk1 : K.lookup f1 = some ⟨oc1, od1, .func (PySem.W.fnOf "fits_whole" "fits_whole" (defArgs (top 11)) (defBody (top 11)) (defScope (top 11)) .none kV1 dc1 pm1 an1 cd1 ct1), sl1⟩)
    (co1 : PySem.W.codeIn K cd1 "fits_whole" = true)
    (ke1 : PySem.W.keepIn K (.ref f1) = true)
    (na2 : PySem.W.nsIn K mainGlobals "is_tuple_of" = some (some (.ref f2)))
    (lk2 : K.lookup f2 = some ⟨oc2, od2, .func (PySem.W.fnOf "is_tuple_of" "is_tuple_of" (defArgs (top 12)) (defBody (top 12)) (defScope (top 12)) .none kV2 dc2 pm2 an2 cd2 ct2), sl2⟩)
    (co2 : PySem.W.codeIn K cd2 "is_tuple_of" = true)
    (ke2 : PySem.W.keepIn K (.ref f2) = true)
    (na3 : PySem.W.nsIn K mainGlobals "fits_make" = some (some (.ref f3)))
    (lk3 : K.lookup f3 = some ⟨oc3, od3, .func (PySem.W.fnOf "fits_make" "fits_make" (defArgs (top 13)) (defBody (top 13)) (defScope (top 13)) .none kV3 dc3 pm3 an3 cd3 ct3), sl3⟩)
    (co3 : PySem.W.codeIn K cd3 "fits_make" = true)
    (ke3 : PySem.W.keepIn K (.ref f3) = true)
    (na4 : PySem.W.nsIn K mainGlobals "fits_cuts" = some (some (.ref f4)))
    (lk4 : K.lookup f4 = some ⟨oc4, od4, .func (PySem.W.fnOf "fits_cuts" "fits_cuts" (defArgs (top 14)) (defBody (top 14)) (defScope (top 14)) .none kV4 dc4 pm4 an4 cd4 ct4), sl4⟩)
    (co4 : PySem.W.codeIn K cd4 "fits_cuts" = true)
    (ke4 : PySem.W.keepIn K (.ref f4) = true)
    (na5 : PySem.W.nsIn K mainGlobals "fits_key" = some (some (.ref f5)))
    (lk5 : K.lookup f5 = some ⟨oc5, od5, .func (PySem.W.fnOf "fits_key" "fits_key" (defArgs (top 15)) (defBody (top 15)) (defScope (top 15)) .none kV5 dc5 pm5 an5 cd5 ct5), sl5⟩)
    (co5 : PySem.W.codeIn K cd5 "fits_key" = true)
    (ke5 : PySem.W.keepIn K (.ref f5) = true)
    (na6 : PySem.W.nsIn K mainGlobals "need_make" = some (some (.ref f6)))
    (lk6 : K.lookup f6 = some ⟨oc6, od6, .func (PySem.W.fnOf "need_make" "need_make" (defArgs (top 16)) (defBody (top 16)) (defScope (top 16)) .none kV6 dc6 pm6 an6 cd6 ct6), sl6⟩)
    (co6 : PySem.W.codeIn K cd6 "need_make" = true)
    (ke6 : PySem.W.keepIn K (.ref f6) = true)
    (na7 : PySem.W.nsIn K mainGlobals "need_key" = some (some (.ref f7)))
    (lk7 : K.lookup f7 = some ⟨oc7, od7, .func (PySem.W.fnOf "need_key" "need_key" (defArgs (top 17)) (defBody (top 17)) (defScope (top 17)) .none kV7 dc7 pm7 an7 cd7 ct7), sl7⟩)
    (co7 : PySem.W.codeIn K cd7 "need_key" = true)
    (ke7 : PySem.W.keepIn K (.ref f7) = true)
    (na8 : PySem.W.nsIn K mainGlobals "need_fault" = some (some (.ref f8)))
    (lk8 : K.lookup f8 = some ⟨oc8, od8, .func (PySem.W.fnOf "need_fault" "need_fault" (defArgs (top 21)) (defBody (top 21)) (defScope (top 21)) .none kV8 dc8 pm8 an8 cd8 ct8), sl8⟩)
    (co8 : PySem.W.codeIn K cd8 "need_fault" = true)
    (ke8 : PySem.W.keepIn K (.ref f8) = true)
    (na9 : PySem.W.nsIn K mainGlobals "need_copies" = some (some (.ref f9)))
    (lk9 : K.lookup f9 = some ⟨oc9, od9, .func (PySem.W.fnOf "need_copies" "need_copies" (defArgs (top 22)) (defBody (top 22)) (defScope (top 22)) .none kV9 dc9 pm9 an9 cd9 ct9), sl9⟩)
    (co9 : PySem.W.codeIn K cd9 "need_copies" = true)
    (ke9 : PySem.W.keepIn K (.ref f9) = true)
    (na10 : PySem.W.nsIn K mainGlobals "need_two" = some (some (.ref f10)))
    (lk10 : K.lookup f10 = some ⟨oc10, od10, .func (PySem.W.fnOf "need_two" "need_two" (defArgs (top 23)) (defBody (top 23)) (defScope (top 23)) .none kV10 dc10 pm10 an10 cd10 ct10), sl10⟩)
    (co10 : PySem.W.codeIn K cd10 "need_two" = true)
    (ke10 : PySem.W.keepIn K (.ref f10) = true)
    (na11 : PySem.W.nsIn K mainGlobals "widest" = some (some (.ref f11)))
    (lk11 : K.lookup f11 = some ⟨oc11, od11, .func (PySem.W.fnOf "widest" "widest" (defArgs (top 24)) (defBody (top 24)) (defScope (top 24)) .none kV11 dc11 pm11 an11 cd11 ct11), sl11⟩)
    (co11 : PySem.W.codeIn K cd11 "widest" = true)
    (ke11 : PySem.W.keepIn K (.ref f11) = true)
    (na12 : PySem.W.nsIn K mainGlobals "copies_for" = some (some (.ref f12)))
    (lk12 : K.lookup f12 = some ⟨oc12, od12, .func (PySem.W.fnOf "copies_for" "copies_for" (defArgs (top 25)) (defBody (top 25)) (defScope (top 25)) .none kV12 dc12 pm12 an12 cd12 ct12), sl12⟩)
    (co12 : PySem.W.codeIn K cd12 "copies_for" = true)
    (ke12 : PySem.W.keepIn K (.ref f12) = true)
    (na13 : PySem.W.nsIn K mainGlobals "between" = some (some (.ref f13)))
    (lk13 : K.lookup f13 = some ⟨oc13, od13, .func (PySem.W.fnOf "between" "between" (defArgs (top 26)) (defBody (top 26)) (defScope (top 26)) .none kV13 dc13 pm13 an13 cd13 ct13), sl13⟩)
    (co13 : PySem.W.codeIn K cd13 "between" = true)
    (ke13 : PySem.W.keepIn K (.ref f13) = true)
    (na14 : PySem.W.nsIn K mainGlobals "towards" = some (some (.ref f14)))
    (lk14 : K.lookup f14 = some ⟨oc14, od14, .func (PySem.W.fnOf "towards" "towards" (defArgs (top 27)) (defBody (top 27)) (defScope (top 27)) .none kV14 dc14 pm14 an14 cd14 ct14), sl14⟩)
    (co14 : PySem.W.codeIn K cd14 "towards" = true)
    (ke14 : PySem.W.keepIn K (.ref f14) = true)
    (na15 : PySem.W.nsIn K mainGlobals "fits_row" = some (some (.ref f15)))
    (lk15 : K.lookup f15 = some ⟨oc15, od15, .func (PySem.W.fnOf "fits_row" "fits_row" (defArgs (top 28)) (defBody (top 28)) (defScope (top 28)) .none kV15 dc15 pm15 an15 cd15 ct15), sl15⟩)
    (co15 : PySem.W.codeIn K cd15 "fits_row" = true)
    (ke15 : PySem.W.keepIn K (.ref f15) = true)
    (na16 : PySem.W.nsIn K mainGlobals "copies_needed" = some (some (.ref f16)))
    (lk16 : K.lookup f16 = some ⟨oc16, od16, .func (PySem.W.fnOf "copies_needed" "copies_needed" (defArgs (top 29)) (defBody (top 29)) (defScope (top 29)) .none kV16 dc16 pm16 an16 cd16 ct16), sl16⟩)
    (co16 : PySem.W.codeIn K cd16 "copies_needed" = true)
    (ke16 : PySem.W.keepIn K (.ref f16) = true)
    (na17 : PySem.W.nsIn K mainGlobals "copy_row" = some (some (.ref f17)))
    (lk17 : K.lookup f17 = some ⟨oc17, od17, .func (PySem.W.fnOf "copy_row" "copy_row" (defArgs (top 30)) (defBody (top 30)) (defScope (top 30)) .none kV17 dc17 pm17 an17 cd17 ct17), sl17⟩)
    (co17 : PySem.W.codeIn K cd17 "copy_row" = true)
    (ke17 : PySem.W.keepIn K (.ref f17) = true)
    (na18 : PySem.W.nsIn K mainGlobals "is_copy_row" = some (some (.ref f18)))
    (lk18 : K.lookup f18 = some ⟨oc18, od18, .func (PySem.W.fnOf "is_copy_row" "is_copy_row" (defArgs (top 31)) (defBody (top 31)) (defScope (top 31)) .none kV18 dc18 pm18 an18 cd18 ct18), sl18⟩)
    (co18 : PySem.W.codeIn K cd18 "is_copy_row" = true)
    (ke18 : PySem.W.keepIn K (.ref f18) = true)
    (na19 : PySem.W.nsIn K mainGlobals "common_copy" = some (some (.ref f19)))
    (lk19 : K.lookup f19 = some ⟨oc19, od19, .func (PySem.W.fnOf "common_copy" "common_copy" (defArgs (top 32)) (defBody (top 32)) (defScope (top 32)) .none kV19 dc19 pm19 an19 cd19 ct19), sl19⟩)
    (co19 : PySem.W.codeIn K cd19 "common_copy" = true)
    (ke19 : PySem.W.keepIn K (.ref f19) = true)
    (na20 : PySem.W.nsIn K mainGlobals "is_common_copy" = some (some (.ref f20)))
    (lk20 : K.lookup f20 = some ⟨oc20, od20, .func (PySem.W.fnOf "is_common_copy" "is_common_copy" (defArgs (top 33)) (defBody (top 33)) (defScope (top 33)) .none kV20 dc20 pm20 an20 cd20 ct20), sl20⟩)
    (co20 : PySem.W.codeIn K cd20 "is_common_copy" = true)
    (ke20 : PySem.W.keepIn K (.ref f20) = true)
    (na21 : PySem.W.nsIn K mainGlobals "_law_cup" = some (some (.ref f21)))
    (lk21 : K.lookup f21 = some ⟨oc21, od21, .func (PySem.W.fnOf "_law_cup" "_law_cup" (defArgs (top 35)) (defBody (top 35)) (defScope (top 35)) .none kV21 dc21 pm21 an21 cd21 ct21), sl21⟩)
    (co21 : PySem.W.codeIn K cd21 "_law_cup" = true)
    (ke21 : PySem.W.keepIn K (.ref f21) = true)
    (na22 : PySem.W.nsIn K mainGlobals "_law_roll" = some (some (.ref f22)))
    (lk22 : K.lookup f22 = some ⟨oc22, od22, .func (PySem.W.fnOf "_law_roll" "_law_roll" (defArgs (top 36)) (defBody (top 36)) (defScope (top 36)) .none kV22 dc22 pm22 an22 cd22 ct22), sl22⟩)
    (co22 : PySem.W.codeIn K cd22 "_law_roll" = true)
    (ke22 : PySem.W.keepIn K (.ref f22) = true)
    (na23 : PySem.W.nsIn K mainGlobals "_law_some" = some (some (.ref f23)))
    (lk23 : K.lookup f23 = some ⟨oc23, od23, .func (PySem.W.fnOf "_law_some" "_law_some" (defArgs (top 37)) (defBody (top 37)) (defScope (top 37)) .none kV23 dc23 pm23 an23 cd23 ct23), sl23⟩)
    (co23 : PySem.W.codeIn K cd23 "_law_some" = true)
    (ke23 : PySem.W.keepIn K (.ref f23) = true)
    (na24 : PySem.W.nsIn K mainGlobals "_law_same" = some (some (.ref f24)))
    (lk24 : K.lookup f24 = some ⟨oc24, od24, .func (PySem.W.fnOf "_law_same" "_law_same" (defArgs (top 38)) (defBody (top 38)) (defScope (top 38)) .none kV24 dc24 pm24 an24 cd24 ct24), sl24⟩)
    (co24 : PySem.W.codeIn K cd24 "_law_same" = true)
    (ke24 : PySem.W.keepIn K (.ref f24) = true)
    (na25 : PySem.W.nsIn K mainGlobals "_law_key" = some (some (.ref f25)))
    (lk25 : K.lookup f25 = some ⟨oc25, od25, .func (PySem.W.fnOf "_law_key" "_law_key" (defArgs (top 39)) (defBody (top 39)) (defScope (top 39)) .none kV25 dc25 pm25 an25 cd25 ct25), sl25⟩)
    (co25 : PySem.W.codeIn K cd25 "_law_key" = true)
    (ke25 : PySem.W.keepIn K (.ref f25) = true)
    (na26 : PySem.W.nsIn K mainGlobals "_law_is_key" = some (some (.ref f26)))
    (lk26 : K.lookup f26 = some ⟨oc26, od26, .func (PySem.W.fnOf "_law_is_key" "_law_is_key" (defArgs (top 40)) (defBody (top 40)) (defScope (top 40)) .none kV26 dc26 pm26 an26 cd26 ct26), sl26⟩)
    (co26 : PySem.W.codeIn K cd26 "_law_is_key" = true)
    (ke26 : PySem.W.keepIn K (.ref f26) = true)
    (na27 : PySem.W.nsIn K mainGlobals "_law_far" = some (some (.ref f27)))
    (lk27 : K.lookup f27 = some ⟨oc27, od27, .func (PySem.W.fnOf "_law_far" "_law_far" (defArgs (top 41)) (defBody (top 41)) (defScope (top 41)) .none kV27 dc27 pm27 an27 cd27 ct27), sl27⟩)
    (co27 : PySem.W.codeIn K cd27 "_law_far" = true)
    (ke27 : PySem.W.keepIn K (.ref f27) = true)
    (na28 : PySem.W.nsIn K mainGlobals "_law_make" = some (some (.ref f28)))
    (lk28 : K.lookup f28 = some ⟨oc28, od28, .func (PySem.W.fnOf "_law_make" "_law_make" (defArgs (top 42)) (defBody (top 42)) (defScope (top 42)) .none kV28 dc28 pm28 an28 cd28 ct28), sl28⟩)
    (co28 : PySem.W.codeIn K cd28 "_law_make" = true)
    (ke28 : PySem.W.keepIn K (.ref f28) = true)
    (na29 : PySem.W.nsIn K mainGlobals "_law_towards" = some (some (.ref f29)))
    (lk29 : K.lookup f29 = some ⟨oc29, od29, .func (PySem.W.fnOf "_law_towards" "_law_towards" (defArgs (top 43)) (defBody (top 43)) (defScope (top 43)) .none kV29 dc29 pm29 an29 cd29 ct29), sl29⟩)
    (co29 : PySem.W.codeIn K cd29 "_law_towards" = true)
    (ke29 : PySem.W.keepIn K (.ref f29) = true)
    (na30 : PySem.W.nsIn K mainGlobals "_law_is_row" = some (some (.ref f30)))
    (lk30 : K.lookup f30 = some ⟨oc30, od30, .func (PySem.W.fnOf "_law_is_row" "_law_is_row" (defArgs (top 44)) (defBody (top 44)) (defScope (top 44)) .none kV30 dc30 pm30 an30 cd30 ct30), sl30⟩)
    (co30 : PySem.W.codeIn K cd30 "_law_is_row" = true)
    (ke30 : PySem.W.keepIn K (.ref f30) = true)
    (na31 : PySem.W.nsIn K mainGlobals "_law_right" = some (some (.ref f31)))
    (lk31 : K.lookup f31 = some ⟨oc31, od31, .func (PySem.W.fnOf "_law_right" "_law_right" (defArgs (top 45)) (defBody (top 45)) (defScope (top 45)) .none kV31 dc31 pm31 an31 cd31 ct31), sl31⟩)
    (co31 : PySem.W.codeIn K cd31 "_law_right" = true)
    (ke31 : PySem.W.keepIn K (.ref f31) = true)
    (na32 : PySem.W.nsIn K mainGlobals "_law_common_right" = some (some (.ref f32)))
    (lk32 : K.lookup f32 = some ⟨oc32, od32, .func (PySem.W.fnOf "_law_common_right" "_law_common_right" (defArgs (top 46)) (defBody (top 46)) (defScope (top 46)) .none kV32 dc32 pm32 an32 cd32 ct32), sl32⟩)
    (co32 : PySem.W.codeIn K cd32 "_law_common_right" = true)
    (ke32 : PySem.W.keepIn K (.ref f32) = true)
    (na33 : PySem.W.nsIn K mainGlobals "_law_word" = some (some (.ref f33)))
    (lk33 : K.lookup f33 = some ⟨oc33, od33, .func (PySem.W.fnOf "_law_word" "_law_word" (defArgs (top 47)) (defBody (top 47)) (defScope (top 47)) .none kV33 dc33 pm33 an33 cd33 ct33), sl33⟩)
    (co33 : PySem.W.codeIn K cd33 "_law_word" = true)
    (ke33 : PySem.W.keepIn K (.ref f33) = true)
    (na34 : PySem.W.nsIn K mainGlobals "law" = some (some (.ref f34)))
    (lk34 : K.lookup f34 = some ⟨oc34, od34, .func (PySem.W.fnOf "law" "law" (defArgs (top 48)) (defBody (top 48)) (defScope (top 48)) .none kV34 dc34 pm34 an34 (.ref cc34) ct34), sl34⟩)
    (co34 : PySem.W.codeIn K (.ref cc34) "law" = true)
    (ke34 : PySem.W.keepIn K (.ref f34) = true)
    (tt34 : h.get? P34 = some { cls := .none, data := .fields #[] })
    (ch34 : PySem.W.codeHdIn K cc34 P34 = true)
    (nl34 : K.lookup P34 = none)
    (ng34 : mainGlobals ≠ P34)
    (nx_InvalidKey : PySem.W.nsIn K mainGlobals "InvalidKey" = some (some (.ref C_InvalidKey)))
    (sx_InvalidKey : PySem.W.subIn K (.ref C_InvalidKey) (.type "BaseException") = some true)
    (tx_InvalidKey : PySem.W.typeIn K (.ref C_InvalidKey) = some (.type "type"))
    (hx_InvalidKey : PySem.W.hasDictIn K C_InvalidKey = true)
    (nx_InvalidMake : PySem.W.nsIn K mainGlobals "InvalidMake" = some (some (.ref C_InvalidMake)))
    (sx_InvalidMake : PySem.W.subIn K (.ref C_InvalidMake) (.type "BaseException") = some true)
    (tx_InvalidMake : PySem.W.typeIn K (.ref C_InvalidMake) = some (.type "type"))
    (hx_InvalidMake : PySem.W.hasDictIn K C_InvalidMake = true)
    (nx_InvalidNumber : PySem.W.nsIn K mainGlobals "InvalidNumber" = some (some (.ref C_InvalidNumber)))
    (sx_InvalidNumber : PySem.W.subIn K (.ref C_InvalidNumber) (.type "BaseException") = some true)
    (tx_InvalidNumber : PySem.W.typeIn K (.ref C_InvalidNumber) = some (.type "type"))
    (hx_InvalidNumber : PySem.W.hasDictIn K C_InvalidNumber = true)
    (nx_PinsError : PySem.W.nsIn K mainGlobals "PinsError" = some (some (.ref C_PinsError)))
    (sx_PinsError : PySem.W.subIn K (.ref C_PinsError) (.type "BaseException") = some true)
    (tx_PinsError : PySem.W.typeIn K (.ref C_PinsError) = some (.type "type"))
    (hx_PinsError : PySem.W.hasDictIn K C_PinsError = true)
    (nx_TooMany : PySem.W.nsIn K mainGlobals "TooMany" = some (some (.ref C_TooMany)))
    (sx_TooMany : PySem.W.subIn K (.ref C_TooMany) (.type "BaseException") = some true)
    (tx_TooMany : PySem.W.typeIn K (.ref C_TooMany) = some (.type "type"))
    (hx_TooMany : PySem.W.hasDictIn K C_TooMany = true)
    (ix_InvalidKey : PySem.W.excIn K C_InvalidKey [.type "ValueError", .type "Exception", .type "BaseException", .type "object"] "ValueError.__new__" = true)
    (kx_InvalidKey : PySem.W.keepIn K (.ref C_InvalidKey) = true)
    (ga_InvalidKey : PySem.W.findIn K (.ref C_InvalidKey) "__getattribute__" = some (some (.builtin "BaseException.__getattribute__")))
    (gt_InvalidKey : PySem.W.findIn K (.ref C_InvalidKey) "__getattr__" = some none)
    (ca_InvalidKey : PySem.W.findIn K (.ref C_InvalidKey) "__class__" = some (some (.builtin "object.__class__")))
    (mo_InvalidKey : PySem.W.mroIn K C_InvalidKey (.type "object") = some true)
    (ix_InvalidMake : PySem.W.excIn K C_InvalidMake [.type "ValueError", .type "Exception", .type "BaseException", .type "object"] "ValueError.__new__" = true)
    (kx_InvalidMake : PySem.W.keepIn K (.ref C_InvalidMake) = true)
    (ga_InvalidMake : PySem.W.findIn K (.ref C_InvalidMake) "__getattribute__" = some (some (.builtin "BaseException.__getattribute__")))
    (gt_InvalidMake : PySem.W.findIn K (.ref C_InvalidMake) "__getattr__" = some none)
    (ca_InvalidMake : PySem.W.findIn K (.ref C_InvalidMake) "__class__" = some (some (.builtin "object.__class__")))
    (mo_InvalidMake : PySem.W.mroIn K C_InvalidMake (.type "object") = some true)
    (ix_InvalidNumber : PySem.W.excIn K C_InvalidNumber [.type "ValueError", .type "Exception", .type "BaseException", .type "object"] "ValueError.__new__" = true)
    (kx_InvalidNumber : PySem.W.keepIn K (.ref C_InvalidNumber) = true)
    (ga_InvalidNumber : PySem.W.findIn K (.ref C_InvalidNumber) "__getattribute__" = some (some (.builtin "BaseException.__getattribute__")))
    (gt_InvalidNumber : PySem.W.findIn K (.ref C_InvalidNumber) "__getattr__" = some none)
    (ca_InvalidNumber : PySem.W.findIn K (.ref C_InvalidNumber) "__class__" = some (some (.builtin "object.__class__")))
    (mo_InvalidNumber : PySem.W.mroIn K C_InvalidNumber (.type "object") = some true)
    (oc_sp : PySem.W.specialIn K (.builtin "object.__class__") "__get__" = some (some (.builtin "getset_descriptor.__get__")))
    (oc_tk : PySem.W.takesIn K (.builtin "object.__class__") = some true)
    (sb_InvalidKey_InvalidKey : PySem.W.subIn K (.ref C_InvalidKey) (.ref C_InvalidKey) = some true)
    (q_InvalidKey_InvalidKey : C_InvalidKey = C_InvalidKey → true = true)
    (sb_InvalidKey_InvalidMake : PySem.W.subIn K (.ref C_InvalidKey) (.ref C_InvalidMake) = some false)
    (q_InvalidKey_InvalidMake : C_InvalidKey = C_InvalidMake → false = true)
    (sb_InvalidKey_InvalidNumber : PySem.W.subIn K (.ref C_InvalidKey) (.ref C_InvalidNumber) = some false)
    (q_InvalidKey_InvalidNumber : C_InvalidKey = C_InvalidNumber → false = true)
    (sb_InvalidKey_PinsError : PySem.W.subIn K (.ref C_InvalidKey) (.ref C_PinsError) = some true)
    (q_InvalidKey_PinsError : C_InvalidKey = C_PinsError → true = true)
    (sb_InvalidKey_TooMany : PySem.W.subIn K (.ref C_InvalidKey) (.ref C_TooMany) = some false)
    (q_InvalidKey_TooMany : C_InvalidKey = C_TooMany → false = true)
    (sb_InvalidMake_InvalidKey : PySem.W.subIn K (.ref C_InvalidMake) (.ref C_InvalidKey) = some false)
    (q_InvalidMake_InvalidKey : C_InvalidMake = C_InvalidKey → false = true)
    (sb_InvalidMake_InvalidMake : PySem.W.subIn K (.ref C_InvalidMake) (.ref C_InvalidMake) = some true)
    (q_InvalidMake_InvalidMake : C_InvalidMake = C_InvalidMake → true = true)
    (sb_InvalidMake_InvalidNumber : PySem.W.subIn K (.ref C_InvalidMake) (.ref C_InvalidNumber) = some false)
    (q_InvalidMake_InvalidNumber : C_InvalidMake = C_InvalidNumber → false = true)
    (sb_InvalidMake_PinsError : PySem.W.subIn K (.ref C_InvalidMake) (.ref C_PinsError) = some true)
    (q_InvalidMake_PinsError : C_InvalidMake = C_PinsError → true = true)
    (sb_InvalidMake_TooMany : PySem.W.subIn K (.ref C_InvalidMake) (.ref C_TooMany) = some false)
    (q_InvalidMake_TooMany : C_InvalidMake = C_TooMany → false = true)
    (sb_InvalidNumber_InvalidKey : PySem.W.subIn K (.ref C_InvalidNumber) (.ref C_InvalidKey) = some false)
    (q_InvalidNumber_InvalidKey : C_InvalidNumber = C_InvalidKey → false = true)
    (sb_InvalidNumber_InvalidMake : PySem.W.subIn K (.ref C_InvalidNumber) (.ref C_InvalidMake) = some false)
    (q_InvalidNumber_InvalidMake : C_InvalidNumber = C_InvalidMake → false = true)
    (sb_InvalidNumber_InvalidNumber : PySem.W.subIn K (.ref C_InvalidNumber) (.ref C_InvalidNumber) = some true)
    (q_InvalidNumber_InvalidNumber : C_InvalidNumber = C_InvalidNumber → true = true)
    (sb_InvalidNumber_PinsError : PySem.W.subIn K (.ref C_InvalidNumber) (.ref C_PinsError) = some true)
    (q_InvalidNumber_PinsError : C_InvalidNumber = C_PinsError → true = true)
    (sb_InvalidNumber_TooMany : PySem.W.subIn K (.ref C_InvalidNumber) (.ref C_TooMany) = some false)
    (q_InvalidNumber_TooMany : C_InvalidNumber = C_TooMany → false = true)
    (nc_COPIES : PySem.W.nsIn K mainGlobals "COPIES" = some (some (.int 100 t_COPIES)))
    (nc_FAULT : PySem.W.nsIn K mainGlobals "FAULT" = some (some (.int 9 t_FAULT)))
    (nc_HEIGHTS : PySem.W.nsIn K mainGlobals "HEIGHTS" = some (some (.int 10 t_HEIGHTS)))
    (nc_PLACES : PySem.W.nsIn K mainGlobals "PLACES" = some (some (.int 8 t_PLACES)))
    (nc_STEP : PySem.W.nsIn K mainGlobals "STEP" = some (some (.int 9 t_STEP)))
    (nb_abs : PySem.W.nsIn K mainGlobals "abs" = some none)
    (nb_all : PySem.W.nsIn K mainGlobals "all" = some none)
    (nb_bool : PySem.W.nsIn K mainGlobals "bool" = some none)
    (nb_int : PySem.W.nsIn K mainGlobals "int" = some none)
    (nb_isinstance : PySem.W.nsIn K mainGlobals "isinstance" = some none)
    (nb_len : PySem.W.nsIn K mainGlobals "len" = some none)
    (nb_list : PySem.W.nsIn K mainGlobals "list" = some none)
    (nb_max : PySem.W.nsIn K mainGlobals "max" = some none)
    (nb_min : PySem.W.nsIn K mainGlobals "min" = some none)
    (nb_range : PySem.W.nsIn K mainGlobals "range" = some none)
    (nb_str : PySem.W.nsIn K mainGlobals "str" = some none)
    (nb_tuple : PySem.W.nsIn K mainGlobals "tuple" = some none)
    (nb_zip : PySem.W.nsIn K mainGlobals "zip" = some none)
    (sem : ∀ ns : List Int, ns.length ≤ 63 → (∀ z ∈ ns, Builtin.Int.intBits z ≤ 1048576) → ∃ c, F_law [.scr ns] none = .ok (.bl true) c) : LamX.LawAtS l w K (L2N.CX l.prog w) 40 63 "script" mg fa h := by
  have ef := hfa.symm.trans (PySem.W.mg_of X G na34)
  cases ef
  have d0 : Df K mg "is_whole" (top 10) ["value"] f0 _ := (fun (F : Fun K "is_whole" "is_whole" (top 10) f0 _) => ⟨F, PySem.W.mg_of X G na0, F.binds fun _ _ _ _ _ _ us hl => match us, hl with | [_], _ => rfl⟩) (fun_mk lk0 co0 ke0)
  have d1 : Df K mg "fits_whole" (top 11) ["value", "low", "high"] f1 _ := (fun (F : Fun K "fits_whole" "fits_whole" (top 11) f1 _) => ⟨F, PySem.W.mg_of X G na1, F.binds fun _ _ _ _ _ _ us hl => match us, hl with | [_, _, _], _ => rfl⟩) (fun_mk lk1 co1 ke1)
  have d2 : Df K mg "is_tuple_of" (top 12) ["value", "least", "most"] f2 _ := (fun (F : Fun K "is_tuple_of" "is_tuple_of" (top 12) f2 _) => ⟨F, PySem.W.mg_of X G na2, F.binds fun _ _ _ _ _ _ us hl => match us, hl with | [_, _, _], _ => rfl⟩) (fun_mk lk2 co2 ke2)
  have d3 : Df K mg "fits_make" (top 13) ["value"] f3 _ := (fun (F : Fun K "fits_make" "fits_make" (top 13) f3 _) => ⟨F, PySem.W.mg_of X G na3, F.binds fun _ _ _ _ _ _ us hl => match us, hl with | [_], _ => rfl⟩) (fun_mk lk3 co3 ke3)
  have d4 : Df K mg "fits_cuts" (top 14) ["make", "value"] f4 _ := (fun (F : Fun K "fits_cuts" "fits_cuts" (top 14) f4 _) => ⟨F, PySem.W.mg_of X G na4, F.binds fun _ _ _ _ _ _ us hl => match us, hl with | [_, _], _ => rfl⟩) (fun_mk lk4 co4 ke4)
  have d5 : Df K mg "fits_key" (top 15) ["make", "value"] f5 _ := (fun (F : Fun K "fits_key" "fits_key" (top 15) f5 _) => ⟨F, PySem.W.mg_of X G na5, F.binds fun _ _ _ _ _ _ us hl => match us, hl with | [_, _], _ => rfl⟩) (fun_mk lk5 co5 ke5)
  have d6 : Df K mg "need_make" (top 16) ["value"] f6 _ := (fun (F : Fun K "need_make" "need_make" (top 16) f6 _) => ⟨F, PySem.W.mg_of X G na6, F.binds fun _ _ _ _ _ _ us hl => match us, hl with | [_], _ => rfl⟩) (fun_mk lk6 co6 ke6)
  have d7 : Df K mg "need_key" (top 17) ["make", "value"] f7 _ := (fun (F : Fun K "need_key" "need_key" (top 17) f7 _) => ⟨F, PySem.W.mg_of X G na7, F.binds fun _ _ _ _ _ _ us hl => match us, hl with | [_, _], _ => rfl⟩) (fun_mk lk7 co7 ke7)
  have d8 : Df K mg "need_fault" (top 21) ["value"] f8 _ := (fun (F : Fun K "need_fault" "need_fault" (top 21) f8 _) => ⟨F, PySem.W.mg_of X G na8, F.binds fun _ _ _ _ _ _ us hl => match us, hl with | [_], _ => rfl⟩) (fun_mk lk8 co8 ke8)
  have d9 : Df K mg "need_copies" (top 22) ["value"] f9 _ := (fun (F : Fun K "need_copies" "need_copies" (top 22) f9 _) => ⟨F, PySem.W.mg_of X G na9, F.binds fun _ _ _ _ _ _ us hl => match us, hl with | [_], _ => rfl⟩) (fun_mk lk9 co9 ke9)
  have d10 : Df K mg "need_two" (top 23) ["make", "key", "other", "fault"] f10 _ := (fun (F : Fun K "need_two" "need_two" (top 23) f10 _) => ⟨F, PySem.W.mg_of X G na10, F.binds fun _ _ _ _ _ _ us hl => match us, hl with | [_, _, _, _], _ => rfl⟩) (fun_mk lk10 co10 ke10)
  have d11 : Df K mg "widest" (top 24) ["key", "other"] f11 _ := (fun (F : Fun K "widest" "widest" (top 24) f11 _) => ⟨F, PySem.W.mg_of X G na11, F.binds fun _ _ _ _ _ _ us hl => match us, hl with | [_, _], _ => rfl⟩) (fun_mk lk11 co11 ke11)
  have d12 : Df K mg "copies_for" (top 25) ["far", "fault"] f12 _ := (fun (F : Fun K "copies_for" "copies_for" (top 25) f12 _) => ⟨F, PySem.W.mg_of X G na12, F.binds fun _ _ _ _ _ _ us hl => match us, hl with | [_, _], _ => rfl⟩) (fun_mk lk12 co12 ke12)
  have d13 : Df K mg "between" (top 26) ["low", "value", "high"] f13 _ := (fun (F : Fun K "between" "between" (top 26) f13 _) => ⟨F, PySem.W.mg_of X G na13, F.binds fun _ _ _ _ _ _ us hl => match us, hl with | [_, _, _], _ => rfl⟩) (fun_mk lk13 co13 ke13)
  have d14 : Df K mg "towards" (top 27) ["key", "other", "far"] f14 _ := (fun (F : Fun K "towards" "towards" (top 27) f14 _) => ⟨F, PySem.W.mg_of X G na14, F.binds fun _ _ _ _ _ _ us hl => match us, hl with | [_, _, _], _ => rfl⟩) (fun_mk lk14 co14 ke14)
  have d15 : Df K mg "fits_row" (top 28) ["make", "key", "other", "fault", "value"] f15 _ := (fun (F : Fun K "fits_row" "fits_row" (top 28) f15 _) => ⟨F, PySem.W.mg_of X G na15, F.binds fun _ _ _ _ _ _ us hl => match us, hl with | [_, _, _, _, _], _ => rfl⟩) (fun_mk lk15 co15 ke15)
  have d16 : Df K mg "copies_needed" (top 29) ["make", "key", "other", "fault"] f16 _ := (fun (F : Fun K "copies_needed" "copies_needed" (top 29) f16 _) => ⟨F, PySem.W.mg_of X G na16, F.binds fun _ _ _ _ _ _ us hl => match us, hl with | [_, _, _, _], _ => rfl⟩) (fun_mk lk16 co16 ke16)
  have d17 : Df K mg "copy_row" (top 30) ["make", "key", "other", "fault"] f17 _ := (fun (F : Fun K "copy_row" "copy_row" (top 30) f17 _) => ⟨F, PySem.W.mg_of X G na17, F.binds fun _ _ _ _ _ _ us hl => match us, hl with | [_, _, _, _], _ => rfl⟩) (fun_mk lk17 co17 ke17)
  have d18 : Df K mg "is_copy_row" (top 31) ["make", "key", "other", "fault", "value"] f18 _ := (fun (F : Fun K "is_copy_row" "is_copy_row" (top 31) f18 _) => ⟨F, PySem.W.mg_of X G na18, F.binds fun _ _ _ _ _ _ us hl => match us, hl with | [_, _, _, _, _], _ => rfl⟩) (fun_mk lk18 co18 ke18)
  have d19 : Df K mg "common_copy" (top 32) ["make", "key", "other", "fault", "many"] f19 _ := (fun (F : Fun K "common_copy" "common_copy" (top 32) f19 _) => ⟨F, PySem.W.mg_of X G na19, F.binds fun _ _ _ _ _ _ us hl => match us, hl with | [_, _, _, _, _], _ => rfl⟩) (fun_mk lk19 co19 ke19)
  have d20 : Df K mg "is_common_copy" (top 33) ["make", "key", "other", "fault", "many", "value"] f20 _ := (fun (F : Fun K "is_common_copy" "is_common_copy" (top 33) f20 _) => ⟨F, PySem.W.mg_of X G na20, F.binds fun _ _ _ _ _ _ us hl => match us, hl with | [_, _, _, _, _, _], _ => rfl⟩) (fun_mk lk20 co20 ke20)
  have d21 : Df K mg "_law_cup" (top 35) ["script"] f21 _ := (fun (F : Fun K "_law_cup" "_law_cup" (top 35) f21 _) => ⟨F, PySem.W.mg_of X G na21, F.binds fun _ _ _ _ _ _ us hl => match us, hl with | [_], _ => rfl⟩) (fun_mk lk21 co21 ke21)
  have d22 : Df K mg "_law_roll" (top 36) ["cup", "many"] f22 _ := (fun (F : Fun K "_law_roll" "_law_roll" (top 36) f22 _) => ⟨F, PySem.W.mg_of X G na22, F.binds fun _ _ _ _ _ _ us hl => match us, hl with | [_, _], _ => rfl⟩) (fun_mk lk22 co22 ke22)
  have d23 : Df K mg "_law_some" (top 37) ["cup", "things"] f23 _ := (fun (F : Fun K "_law_some" "_law_some" (top 37) f23 _) => ⟨F, PySem.W.mg_of X G na23, F.binds fun _ _ _ _ _ _ us hl => match us, hl with | [_, _], _ => rfl⟩) (fun_mk lk23 co23 ke23)
  have d24 : Df K mg "_law_same" (top 38) ["told", "due"] f24 _ := (fun (F : Fun K "_law_same" "_law_same" (top 38) f24 _) => ⟨F, PySem.W.mg_of X G na24, F.binds fun _ _ _ _ _ _ us hl => match us, hl with | [_, _], _ => rfl⟩) (fun_mk lk24 co24 ke24)
  have d25 : Df K mg "_law_key" (top 39) ["cup", "make"] f25 _ := (fun (F : Fun K "_law_key" "_law_key" (top 39) f25 _) => ⟨F, PySem.W.mg_of X G na25, F.binds fun _ _ _ _ _ _ us hl => match us, hl with | [_, _], _ => rfl⟩) (fun_mk lk25 co25 ke25)
  have d26 : Df K mg "_law_is_key" (top 40) ["make", "value"] f26 _ := (fun (F : Fun K "_law_is_key" "_law_is_key" (top 40) f26 _) => ⟨F, PySem.W.mg_of X G na26, F.binds fun _ _ _ _ _ _ us hl => match us, hl with | [_, _], _ => rfl⟩) (fun_mk lk26 co26 ke26)
  have d27 : Df K mg "_law_far" (top 41) ["key", "other"] f27 _ := (fun (F : Fun K "_law_far" "_law_far" (top 41) f27 _) => ⟨F, PySem.W.mg_of X G na27, F.binds fun _ _ _ _ _ _ us hl => match us, hl with | [_, _], _ => rfl⟩) (fun_mk lk27 co27 ke27)
  have d28 : Df K mg "_law_make" (top 42) ["cup"] f28 _ := (fun (F : Fun K "_law_make" "_law_make" (top 42) f28 _) => ⟨F, PySem.W.mg_of X G na28, F.binds fun _ _ _ _ _ _ us hl => match us, hl with | [_], _ => rfl⟩) (fun_mk lk28 co28 ke28)
  have d29 : Df K mg "_law_towards" (top 43) ["key", "other", "far"] f29 _ := (fun (F : Fun K "_law_towards" "_law_towards" (top 43) f29 _) => ⟨F, PySem.W.mg_of X G na29, F.binds fun _ _ _ _ _ _ us hl => match us, hl with | [_, _, _], _ => rfl⟩) (fun_mk lk29 co29 ke29)
  have d30 : Df K mg "_law_is_row" (top 44) ["make", "key", "other", "fault", "value"] f30 _ := (fun (F : Fun K "_law_is_row" "_law_is_row" (top 44) f30 _) => ⟨F, PySem.W.mg_of X G na30, F.binds fun _ _ _ _ _ _ us hl => match us, hl with | [_, _, _, _, _], _ => rfl⟩) (fun_mk lk30 co30 ke30)
  have d31 : Df K mg "_law_right" (top 45) ["cup", "make", "key", "other", "fault"] f31 _ := (fun (F : Fun K "_law_right" "_law_right" (top 45) f31 _) => ⟨F, PySem.W.mg_of X G na31, F.binds fun _ _ _ _ _ _ us hl => match us, hl with | [_, _, _, _, _], _ => rfl⟩) (fun_mk lk31 co31 ke31)
  have d32 : Df K mg "_law_common_right" (top 46) ["cup", "make", "key", "other", "fault"] f32 _ := (fun (F : Fun K "_law_common_right" "_law_common_right" (top 46) f32 _) => ⟨F, PySem.W.mg_of X G na32, F.binds fun _ _ _ _ _ _ us hl => match us, hl with | [_, _, _, _, _], _ => rfl⟩) (fun_mk lk32 co32 ke32)
  have d33 : Df K mg "_law_word" (top 47) ["call"] f33 _ := (fun (F : Fun K "_law_word" "_law_word" (top 47) f33 _) => ⟨F, PySem.W.mg_of X G na33, F.binds fun _ _ _ _ _ _ us hl => match us, hl with | [_], _ => rfl⟩) (fun_mk lk33 co33 ke33)
  have d34 : Df K mg "law" (top 48) ["script"] fa _ := (fun (F : Fun K "law" "law" (top 48) fa _) => ⟨F, PySem.W.mg_of X G na34, F.binds fun _ _ _ _ _ _ us hl => match us, hl with | [_], _ => rfl⟩) (fun_mk lk34 co34 ke34)
  have ex_InvalidKey : ExcC K C_InvalidKey := ⟨ga_InvalidKey, gt_InvalidKey, sx_InvalidKey, hx_InvalidKey, ca_InvalidKey, oc_sp, oc_tk, mo_InvalidKey⟩
  have ex_InvalidMake : ExcC K C_InvalidMake := ⟨ga_InvalidMake, gt_InvalidMake, sx_InvalidMake, hx_InvalidMake, ca_InvalidMake, oc_sp, oc_tk, mo_InvalidMake⟩
  have ex_InvalidNumber : ExcC K C_InvalidNumber := ⟨ga_InvalidNumber, gt_InvalidNumber, sx_InvalidNumber, hx_InvalidNumber, ca_InvalidNumber, oc_sp, oc_tk, mo_InvalidNumber⟩
  have so : SupOkK K mg sup := supOk_of (List.forall_mem_cons.mpr ⟨sup_row (PySem.W.mg_of X G nx_InvalidKey) (PySem.W.mg_of X G nx_InvalidKey) ex_InvalidKey sx_InvalidKey hx_InvalidKey tx_InvalidKey sb_InvalidKey_InvalidKey q_InvalidKey_InvalidKey, List.forall_mem_cons.mpr ⟨sup_row (PySem.W.mg_of X G nx_InvalidKey) (PySem.W.mg_of X G nx_InvalidMake) ex_InvalidKey sx_InvalidMake hx_InvalidMake tx_InvalidMake sb_InvalidKey_InvalidMake q_InvalidKey_InvalidMake, List.forall_mem_cons.mpr ⟨sup_row (PySem.W.mg_of X G nx_InvalidKey) (PySem.W.mg_of X G nx_InvalidNumber) ex_InvalidKey sx_InvalidNumber hx_InvalidNumber tx_InvalidNumber sb_InvalidKey_InvalidNumber q_InvalidKey_InvalidNumber, List.forall_mem_cons.mpr ⟨sup_row (PySem.W.mg_of X G nx_InvalidKey) (PySem.W.mg_of X G nx_PinsError) ex_InvalidKey sx_PinsError hx_PinsError tx_PinsError sb_InvalidKey_PinsError q_InvalidKey_PinsError, List.forall_mem_cons.mpr ⟨sup_row (PySem.W.mg_of X G nx_InvalidKey) (PySem.W.mg_of X G nx_TooMany) ex_InvalidKey sx_TooMany hx_TooMany tx_TooMany sb_InvalidKey_TooMany q_InvalidKey_TooMany, List.forall_mem_cons.mpr ⟨sup_row (PySem.W.mg_of X G nx_InvalidMake) (PySem.W.mg_of X G nx_InvalidKey) ex_InvalidMake sx_InvalidKey hx_InvalidKey tx_InvalidKey sb_InvalidMake_InvalidKey q_InvalidMake_InvalidKey, List.forall_mem_cons.mpr ⟨sup_row (PySem.W.mg_of X G nx_InvalidMake) (PySem.W.mg_of X G nx_InvalidMake) ex_InvalidMake sx_InvalidMake hx_InvalidMake tx_InvalidMake sb_InvalidMake_InvalidMake q_InvalidMake_InvalidMake, List.forall_mem_cons.mpr ⟨sup_row (PySem.W.mg_of X G nx_InvalidMake) (PySem.W.mg_of X G nx_InvalidNumber) ex_InvalidMake sx_InvalidNumber hx_InvalidNumber tx_InvalidNumber sb_InvalidMake_InvalidNumber q_InvalidMake_InvalidNumber, List.forall_mem_cons.mpr ⟨sup_row (PySem.W.mg_of X G nx_InvalidMake) (PySem.W.mg_of X G nx_PinsError) ex_InvalidMake sx_PinsError hx_PinsError tx_PinsError sb_InvalidMake_PinsError q_InvalidMake_PinsError, List.forall_mem_cons.mpr ⟨sup_row (PySem.W.mg_of X G nx_InvalidMake) (PySem.W.mg_of X G nx_TooMany) ex_InvalidMake sx_TooMany hx_TooMany tx_TooMany sb_InvalidMake_TooMany q_InvalidMake_TooMany, List.forall_mem_cons.mpr ⟨sup_row (PySem.W.mg_of X G nx_InvalidNumber) (PySem.W.mg_of X G nx_InvalidKey) ex_InvalidNumber sx_InvalidKey hx_InvalidKey tx_InvalidKey sb_InvalidNumber_InvalidKey q_InvalidNumber_InvalidKey, List.forall_mem_cons.mpr ⟨sup_row (PySem.W.mg_of X G nx_InvalidNumber) (PySem.W.mg_of X G nx_InvalidMake) ex_InvalidNumber sx_InvalidMake hx_InvalidMake tx_InvalidMake sb_InvalidNumber_InvalidMake q_InvalidNumber_InvalidMake, List.forall_mem_cons.mpr ⟨sup_row (PySem.W.mg_of X G nx_InvalidNumber) (PySem.W.mg_of X G nx_InvalidNumber) ex_InvalidNumber sx_InvalidNumber hx_InvalidNumber tx_InvalidNumber sb_InvalidNumber_InvalidNumber q_InvalidNumber_InvalidNumber, List.forall_mem_cons.mpr ⟨sup_row (PySem.W.mg_of X G nx_InvalidNumber) (PySem.W.mg_of X G nx_PinsError) ex_InvalidNumber sx_PinsError hx_PinsError tx_PinsError sb_InvalidNumber_PinsError q_InvalidNumber_PinsError, List.forall_mem_cons.mpr ⟨sup_row (PySem.W.mg_of X G nx_InvalidNumber) (PySem.W.mg_of X G nx_TooMany) ex_InvalidNumber sx_TooMany hx_TooMany tx_TooMany sb_InvalidNumber_TooMany q_InvalidNumber_TooMany, fun _ h => absurd h (by simp)⟩⟩⟩⟩⟩⟩⟩⟩⟩⟩⟩⟩⟩⟩⟩)
  let Z : Fx K mg := {
    a_is_whole := f0, fd_is_whole := _,
    a_fits_whole := f1, fd_fits_whole := _,
    a_is_tuple_of := f2, fd_is_tuple_of := _,
    a_fits_make := f3, fd_fits_make := _,
    a_fits_cuts := f4, fd_fits_cuts := _,
    a_fits_key := f5, fd_fits_key := _,
    a_need_make := f6, fd_need_make := _,
    a_need_key := f7, fd_need_key := _,
    a_need_fault := f8, fd_need_fault := _,
    a_need_copies := f9, fd_need_copies := _,
    a_need_two := f10, fd_need_two := _,
    a_widest := f11, fd_widest := _,
    a_copies_for := f12, fd_copies_for := _,
    a_between := f13, fd_between := _,
    a_towards := f14, fd_towards := _,
    a_fits_row := f15, fd_fits_row := _,
    a_copies_needed := f16, fd_copies_needed := _,
    a_copy_row := f17, fd_copy_row := _,
    a_is_copy_row := f18, fd_is_copy_row := _,
    a_common_copy := f19, fd_common_copy := _,
    a_is_common_copy := f20, fd_is_common_copy := _,
    a__law_cup := f21, fd__law_cup := _,
    a__law_roll := f22, fd__law_roll := _,
    a__law_some := f23, fd__law_some := _,
    a__law_same := f24, fd__law_same := _,
    a__law_key := f25, fd__law_key := _,
    a__law_is_key := f26, fd__law_is_key := _,
    a__law_far := f27, fd__law_far := _,
    a__law_make := f28, fd__law_make := _,
    a__law_towards := f29, fd__law_towards := _,
    a__law_is_row := f30, fd__law_is_row := _,
    a__law_right := f31, fd__law_right := _,
    a__law_common_right := f32, fd__law_common_right := _,
    a__law_word := f33, fd__law_word := _,
    a_law := fa, fd_law := _,
    c_law := cc34, P_law := P34,
    C_InvalidKey := C_InvalidKey,
    C_InvalidMake := C_InvalidMake,
    C_InvalidNumber := C_InvalidNumber,
    C_PinsError := C_PinsError,
    C_TooMany := C_TooMany,
    t_COPIES := t_COPIES,
    t_FAULT := t_FAULT,
    t_HEIGHTS := t_HEIGHTS,
    t_PLACES := t_PLACES,
    t_STEP := t_STEP,
    d_is_whole := d0,
    d_fits_whole := d1,
    d_is_tuple_of := d2,
    d_fits_make := d3,
    d_fits_cuts := d4,
    d_fits_key := d5,
    d_need_make := d6,
    d_need_key := d7,
    d_need_fault := d8,
    d_need_copies := d9,
    d_need_two := d10,
    d_widest := d11,
    d_copies_for := d12,
    d_between := d13,
    d_towards := d14,
    d_fits_row := d15,
    d_copies_needed := d16,
    d_copy_row := d17,
    d_is_copy_row := d18,
    d_common_copy := d19,
    d_is_common_copy := d20,
    d__law_cup := d21,
    d__law_roll := d22,
    d__law_some := d23,
    d__law_same := d24,
    d__law_key := d25,
    d__law_is_key := d26,
    d__law_far := d27,
    d__law_make := d28,
    d__law_towards := d29,
    d__law_is_row := d30,
    d__law_right := d31,
    d__law_common_right := d32,
    d__law_word := d33,
    d_law := d34,
    cd_law := rfl,
    b_abs := PySem.W.mg_none_of X G nb_abs,
    b_all := PySem.W.mg_none_of X G nb_all,
    b_bool := PySem.W.mg_none_of X G nb_bool,
    b_int := PySem.W.mg_none_of X G nb_int,
    b_isinstance := PySem.W.mg_none_of X G nb_isinstance,
    b_len := PySem.W.mg_none_of X G nb_len,
    b_list := PySem.W.mg_none_of X G nb_list,
    b_max := PySem.W.mg_none_of X G nb_max,
    b_min := PySem.W.mg_none_of X G nb_min,
    b_range := PySem.W.mg_none_of X G nb_range,
    b_str := PySem.W.mg_none_of X G nb_str,
    b_tuple := PySem.W.mg_none_of X G nb_tuple,
    b_zip := PySem.W.mg_none_of X G nb_zip,
    g_COPIES := PySem.W.mg_of X G nc_COPIES,
    g_FAULT := PySem.W.mg_of X G nc_FAULT,
    g_HEIGHTS := PySem.W.mg_of X G nc_HEIGHTS,
    g_PLACES := PySem.W.mg_of X G nc_PLACES,
    g_STEP := PySem.W.mg_of X G nc_STEP,
    e_InvalidKey := ⟨⟨_, _, _, _, PySem.F.excBase_ValueError, ix_InvalidKey⟩, PySem.W.mg_of X G nx_InvalidKey, kx_InvalidKey, sx_InvalidKey, tx_InvalidKey⟩,
    e_InvalidMake := ⟨⟨_, _, _, _, PySem.F.excBase_ValueError, ix_InvalidMake⟩, PySem.W.mg_of X G nx_InvalidMake, kx_InvalidMake, sx_InvalidMake, tx_InvalidMake⟩,
    e_InvalidNumber := ⟨⟨_, _, _, _, PySem.F.excBase_ValueError, ix_InvalidNumber⟩, PySem.W.mg_of X G nx_InvalidNumber, kx_InvalidNumber, sx_InvalidNumber, tx_InvalidNumber⟩,
    x_InvalidKey := ⟨PySem.W.mg_of X G nx_InvalidKey⟩,
    x_InvalidMake := ⟨PySem.W.mg_of X G nx_InvalidMake⟩,
    x_InvalidNumber := ⟨PySem.W.mg_of X G nx_InvalidNumber⟩,
    x_PinsError := ⟨PySem.W.mg_of X G nx_PinsError⟩,
    x_TooMany := ⟨PySem.W.mg_of X G nx_TooMany⟩,
    sup := so }
  refine ⟨Z.fd_law, [(cc34, P34)], spG ⟨K, mg, Z.Tb, none, none, none⟩ 1 false F_law, List.forall_mem_cons.mpr ⟨tt34, fun _ h => absurd h (by simp)⟩, List.forall_mem_cons.mpr ⟨nl34, fun _ h => absurd h (by simp)⟩, List.forall_mem_cons.mpr ⟨PySem.W.codeHd_of_K X ch34, fun _ h => absurd h (by simp)⟩, fun s u => .of_eq (by rfl), fun H a ns h1 h2 h3 h4 => law_sp (sem ns h1 h2) (List.forall_mem_cons.mpr ⟨h3 (cc34, P34) (by simp), fun _ h => absurd h (by simp)⟩) h4, fun base KB GB hT => ?_⟩
  have TB : Tq Z base := ⟨hT (cc34, P34) (by simp)⟩
  exact ((ok_law (P := l.prog) (w := w) Z TB).mono (by decide)).ok
end G

set_option Elab.async false
set_option maxRecDepth 100000
open PySem PySem.W PyProof.Rows
set_option maxRecDepth 100000 in
set_option maxHeartbeats 0 in
theorem PySem.Challenge.cw_strongroom_k46_whole_rows_of_copies_betw_holds : PySem.Challenge.rw_strongroom_k46_whole_rows_of_copies_betw.Holds := by
  w_on; o_law; k_head; (case hw => w_witness2)
  k_fill
  refine LamX.walk_ofTs (n := 63) (k := 40) (x := "script") (CX := fun w => L2N.CX PySem.Challenge.rw_strongroom_k46_whole_rows_of_copies_betw.prog w) rfl (by decide) rfl ⟨rfl, by decide, by decide⟩ (fun w h Y => PySem.W.km_in_of Y) ?F (fun w H s e s' z => G.hCX_none z)
  case F =>
    intro w mg fa h Y KX GN hmg
    refine' G.all_mk (l := PySem.Challenge.rw_strongroom_k46_whole_rows_of_copies_betw) KX GN hmg ?na0 ?lk0 ?co0 ?ke0 ?na1 ?lk1 ?co1 ?ke1 ?na2 ?lk2 ?co2 ?ke2 ?na3 ?lk3 ?co3 ?ke3 ?na4 ?lk4 ?co4 ?ke4 ?na5 ?lk5 ?co5 ?ke5 ?na6 ?lk6 ?co6 ?ke6 ?na7 ?lk7 ?co7 ?ke7 ?na8 ?lk8 ?co8 ?ke8 ?na9 ?lk9 ?co9 ?ke9 ?na10 ?lk10 ?co10 ?ke10 ?na11 ?lk11 ?co11 ?ke11 ?na12 ?lk12 ?co12 ?ke12 ?na13 ?lk13 ?co13 ?ke13 ?na14 ?lk14 ?co14 ?ke14 ?na15 ?lk15 ?co15 ?ke15 ?na16 ?lk16 ?co16 ?ke16 ?na17 ?lk17 ?co17 ?ke17 ?na18 ?lk18 ?co18 ?ke18 ?na19 ?lk19 ?co19 ?ke19 ?na20 ?lk20 ?co20 ?ke20 ?na21 ?lk21 ?co21 ?ke21 ?na22 ?lk22 ?co22 ?ke22 ?na23 ?lk23 ?co23 ?ke23 ?na24 ?lk24 ?co24 ?ke24 ?na25 ?lk25 ?co25 ?ke25 ?na26 ?lk26 ?co26 ?ke26 ?na27 ?lk27 ?co27 ?ke27 ?na28 ?lk28 ?co28 ?ke28 ?na29 ?lk29 ?co29 ?ke29 ?na30 ?lk30 ?co30 ?ke30 ?na31 ?lk31 ?co31 ?ke31 ?na32 ?lk32 ?co32 ?ke32 ?na33 ?lk33 ?co33 ?ke33 ?na34 ?lk34 ?co34 ?ke34 ?tt34 ?ch34 ?nl34 ?ng34 ?nx_InvalidKey ?sx_InvalidKey ?tx_InvalidKey ?hx_InvalidKey ?nx_InvalidMake ?sx_InvalidMake ?tx_InvalidMake ?hx_InvalidMake ?nx_InvalidNumber ?sx_InvalidNumber ?tx_InvalidNumber ?hx_InvalidNumber ?nx_PinsError ?sx_PinsError ?tx_PinsError ?hx_PinsError ?nx_TooMany ?sx_TooMany ?tx_TooMany ?hx_TooMany ?ix_InvalidKey ?kx_InvalidKey ?ga_InvalidKey ?gt_InvalidKey ?ca_InvalidKey ?mo_InvalidKey ?ix_InvalidMake ?kx_InvalidMake ?ga_InvalidMake ?gt_InvalidMake ?ca_InvalidMake ?mo_InvalidMake ?ix_InvalidNumber ?kx_InvalidNumber ?ga_InvalidNumber ?gt_InvalidNumber ?ca_InvalidNumber ?mo_InvalidNumber ?oc_sp ?oc_tk ?sb_InvalidKey_InvalidKey ?q_InvalidKey_InvalidKey ?sb_InvalidKey_InvalidMake ?q_InvalidKey_InvalidMake ?sb_InvalidKey_InvalidNumber ?q_InvalidKey_InvalidNumber ?sb_InvalidKey_PinsError ?q_InvalidKey_PinsError ?sb_InvalidKey_TooMany ?q_InvalidKey_TooMany ?sb_InvalidMake_InvalidKey ?q_InvalidMake_InvalidKey ?sb_InvalidMake_InvalidMake ?q_InvalidMake_InvalidMake ?sb_InvalidMake_InvalidNumber ?q_InvalidMake_InvalidNumber ?sb_InvalidMake_PinsError ?q_InvalidMake_PinsError ?sb_InvalidMake_TooMany ?q_InvalidMake_TooMany ?sb_InvalidNumber_InvalidKey ?q_InvalidNumber_InvalidKey ?sb_InvalidNumber_InvalidMake ?q_InvalidNumber_InvalidMake ?sb_InvalidNumber_InvalidNumber ?q_InvalidNumber_InvalidNumber ?sb_InvalidNumber_PinsError ?q_InvalidNumber_PinsError ?sb_InvalidNumber_TooMany ?q_InvalidNumber_TooMany ?nc_COPIES ?nc_FAULT ?nc_HEIGHTS ?nc_PLACES ?nc_STEP ?nb_abs ?nb_all ?nb_bool ?nb_int ?nb_isinstance ?nb_len ?nb_list ?nb_max ?nb_min ?nb_range ?nb_str ?nb_tuple ?nb_zip G.sem_law
    (case na0 => k_is); (case lk0 => k_is); (case co0 => k_is); (case ke0 => k_is); (case na1 => k_is); (case lk1 => k_is); (case co1 => k_is); (case ke1 => k_is); (case na2 => k_is); (case lk2 => k_is); (case co2 => k_is); (case ke2 => k_is); (case na3 => k_is); (case lk3 => k_is); (case co3 => k_is); (case ke3 => k_is); (case na4 => k_is); (case lk4 => k_is); (case co4 => k_is); (case ke4 => k_is); (case na5 => k_is)
    (case lk5 => k_is); (case co5 => k_is); (case ke5 => k_is); (case na6 => k_is); (case lk6 => k_is); (case co6 => k_is); (case ke6 => k_is); (case na7 => k_is); (case lk7 => k_is); (case co7 => k_is); (case ke7 => k_is); (case na8 => k_is); (case lk8 => k_is); (case co8 => k_is); (case ke8 => k_is); (case na9 => k_is); (case lk9 => k_is); (case co9 => k_is); (case ke9 => k_is); (case na10 => k_is)
    (case lk10 => k_is); (case co10 => k_is); (case ke10 => k_is); (case na11 => k_is); (case lk11 => k_is); (case co11 => k_is); (case ke11 => k_is); (case na12 => k_is); (case lk12 => k_is); (case co12 => k_is); (case ke12 => k_is); (case na13 => k_is); (case lk13 => k_is); (case co13 => k_is); (case ke13 => k_is); (case na14 => k_is); (case lk14 => k_is); (case co14 => k_is); (case ke14 => k_is); (case na15 => k_is)
    (case lk15 => k_is); (case co15 => k_is); (case ke15 => k_is); (case na16 => k_is); (case lk16 => k_is); (case co16 => k_is); (case ke16 => k_is); (case na17 => k_is); (case lk17 => k_is); (case co17 => k_is); (case ke17 => k_is); (case na18 => k_is); (case lk18 => k_is); (case co18 => k_is); (case ke18 => k_is); (case na19 => k_is); (case lk19 => k_is); (case co19 => k_is); (case ke19 => k_is); (case na20 => k_is)
    (case lk20 => k_is); (case co20 => k_is); (case ke20 => k_is); (case na21 => k_is); (case lk21 => k_is); (case co21 => k_is); (case ke21 => k_is); (case na22 => k_is); (case lk22 => k_is); (case co22 => k_is); (case ke22 => k_is); (case na23 => k_is); (case lk23 => k_is); (case co23 => k_is); (case ke23 => k_is); (case na24 => k_is); (case lk24 => k_is); (case co24 => k_is); (case ke24 => k_is); (case na25 => k_is)
    (case lk25 => k_is); (case co25 => k_is); (case ke25 => k_is); (case na26 => k_is); (case lk26 => k_is); (case co26 => k_is); (case ke26 => k_is); (case na27 => k_is); (case lk27 => k_is); (case co27 => k_is); (case ke27 => k_is); (case na28 => k_is); (case lk28 => k_is); (case co28 => k_is); (case ke28 => k_is); (case na29 => k_is); (case lk29 => k_is); (case co29 => k_is); (case ke29 => k_is); (case na30 => k_is)
    (case lk30 => k_is); (case co30 => k_is); (case ke30 => k_is); (case na31 => k_is); (case lk31 => k_is); (case co31 => k_is); (case ke31 => k_is); (case na32 => k_is); (case lk32 => k_is); (case co32 => k_is); (case ke32 => k_is); (case na33 => k_is); (case lk33 => k_is); (case co33 => k_is); (case ke33 => k_is); (case na34 => k_is); (case lk34 => k_is); (case co34 => k_is); (case ke34 => k_is); (case tt34 => exact PySem.W.km_tabs_of Y _ (by first | exact List.mem_singleton.mpr rfl | decide))
    (case ch34 => kernel_rfl); (case nl34 => kernel_rfl); (case ng34 => decide); (case nx_InvalidKey => k_is); (case sx_InvalidKey => k_is); (case tx_InvalidKey => k_is); (case hx_InvalidKey => k_is); (case nx_InvalidMake => k_is); (case sx_InvalidMake => k_is); (case tx_InvalidMake => k_is); (case hx_InvalidMake => k_is); (case nx_InvalidNumber => k_is); (case sx_InvalidNumber => k_is); (case tx_InvalidNumber => k_is)
    (case hx_InvalidNumber => k_is); (case nx_PinsError => k_is); (case sx_PinsError => k_is); (case tx_PinsError => k_is); (case hx_PinsError => k_is); (case nx_TooMany => k_is); (case sx_TooMany => k_is); (case tx_TooMany => k_is); (case hx_TooMany => k_is); (case ix_InvalidKey => k_exc); (case kx_InvalidKey => k_is); (case ga_InvalidKey => k_is); (case gt_InvalidKey => k_is); (case ca_InvalidKey => k_is)
    (case mo_InvalidKey => k_is); (case ix_InvalidMake => k_exc); (case kx_InvalidMake => k_is); (case ga_InvalidMake => k_is); (case gt_InvalidMake => k_is); (case ca_InvalidMake => k_is); (case mo_InvalidMake => k_is); (case ix_InvalidNumber => k_exc); (case kx_InvalidNumber => k_is); (case ga_InvalidNumber => k_is); (case gt_InvalidNumber => k_is); (case ca_InvalidNumber => k_is); (case mo_InvalidNumber => k_is)
    (case oc_sp => k_is); (case oc_tk => k_is); (case sb_InvalidKey_InvalidKey => k_is); (case q_InvalidKey_InvalidKey => decide); (case sb_InvalidKey_InvalidMake => k_is); (case q_InvalidKey_InvalidMake => decide); (case sb_InvalidKey_InvalidNumber => k_is); (case q_InvalidKey_InvalidNumber => decide); (case sb_InvalidKey_PinsError => k_is); (case q_InvalidKey_PinsError => decide); (case sb_InvalidKey_TooMany => k_is)
    (case q_InvalidKey_TooMany => decide); (case sb_InvalidMake_InvalidKey => k_is); (case q_InvalidMake_InvalidKey => decide); (case sb_InvalidMake_InvalidMake => k_is); (case q_InvalidMake_InvalidMake => decide); (case sb_InvalidMake_InvalidNumber => k_is); (case q_InvalidMake_InvalidNumber => decide); (case sb_InvalidMake_PinsError => k_is); (case q_InvalidMake_PinsError => decide); (case sb_InvalidMake_TooMany => k_is)
    (case q_InvalidMake_TooMany => decide); (case sb_InvalidNumber_InvalidKey => k_is); (case q_InvalidNumber_InvalidKey => decide); (case sb_InvalidNumber_InvalidMake => k_is); (case q_InvalidNumber_InvalidMake => decide); (case sb_InvalidNumber_InvalidNumber => k_is); (case q_InvalidNumber_InvalidNumber => decide); (case sb_InvalidNumber_PinsError => k_is); (case q_InvalidNumber_PinsError => decide)
    (case sb_InvalidNumber_TooMany => k_is); (case q_InvalidNumber_TooMany => decide); (case nc_COPIES => k_is); (case nc_FAULT => k_is); (case nc_HEIGHTS => k_is); (case nc_PLACES => k_is); (case nc_STEP => k_is); (case nb_abs => k_is); (case nb_all => k_is); (case nb_bool => k_is); (case nb_int => k_is); (case nb_isinstance => k_is); (case nb_len => k_is); (case nb_list => k_is); (case nb_max => k_is)
    (case nb_min => k_is); (case nb_range => k_is); (case nb_str => k_is); (case nb_tuple => k_is); (case nb_zip => k_is)

