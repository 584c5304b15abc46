import PyProof.Rows.All
import Wide.All
import OpenK.AllK
import Wide.FinOn
import KE.KStateDown
import HandS.ForMost
import HandS.ForExc
import HandS.Defaults
import HandS.CallSlots
import HandS.TupAny
import HandS.Flow
import HandS.HeadHook2
import HandS.HeadEnd
import HandS.Head2
import HandS.Head3
import HandS.SetBool
import HandS.SetKeys
import HandS.Wide
import HandS.IsInst
import HandS.Style
import HandS.Deep
import HandS.More
import KE.KDictZip
import KE.KExcSuper
import KE.KExcIs
import KE.KIsAll
import HandS.ExcField
import HandS.ExcIs
import HandS.TryMany
import PySem.Challenge.RW_drawnonce_k01_first_fault_of_a_term
set_option Elab.async false
set_option linter.all false
set_option maxRecDepth 100000
/-! The small language: values, heap, runs; and how a run of it stands for a run of the model. -/
namespace Mi
open PySem PySem.Spec PyProof.Rows L2

/-- the frozen part and the world -/
structure KW where
  K : PySem.W.Frag
  w : World
  /-- the exception that is handled -/
  hx : Option (Addr × Obj)
instance : CoeOut KW PySem.W.Frag := ⟨KW.K⟩
/-- those of a context -/
def hxOf (calm : Bool) (pn : List (Addr × Obj)) : Option (Addr × Obj) := match calm, pn with
  | false, p :: _ => some p
  | _, _ => none
abbrev _root_.L2.Cx.Kw (X : L2.Cx) : KW := ⟨X.K, X.w, hxOf X.calm X.pn⟩
/-! ### values and objects of the small language -/
inductive D where
  | non | bl (b : Bool) | int (i : Int) | str (s : List Nat) | tup (xs : List D) | sl (xs : List D) | ref (n : Nat) | exc (c : Str) (ns : List Str) (xs : List D)
mutual
def D.dec : (a b : D) → Decidable (a = b)
  | .non, .non => .isTrue rfl
  | .bl a, .bl b => if h : a = b then .isTrue (by rw [h]) else .isFalse (fun e => h (D.bl.inj e))
  | .int a, .int b => if h : a = b then .isTrue (by rw [h]) else .isFalse (fun e => h (D.int.inj e))
  | .str a, .str b => if h : a = b then .isTrue (by rw [h]) else .isFalse (fun e => h (D.str.inj e))
  | .ref a, .ref b => if h : a = b then .isTrue (by rw [h]) else .isFalse (fun e => h (D.ref.inj e))
  | .tup a, .tup b => match D.decL a b with
    | .isTrue h => .isTrue (by rw [h])
    | .isFalse h => .isFalse (fun e => h (D.tup.inj e))
  | .sl a, .sl b => match D.decL a b with
    | .isTrue h => .isTrue (by rw [h])
    | .isFalse h => .isFalse (fun e => h (D.sl.inj e))
  | .exc c ns a, .exc c2 ns2 b => match decEq c c2, decEq ns ns2, D.decL a b with
    | .isTrue h1, .isTrue h2, .isTrue h => .isTrue (by rw [h1, h2, h])
    | .isFalse h, _, _ => .isFalse (fun e => h (D.exc.inj e).1)
    | _, .isFalse h, _ => .isFalse (fun e => h (D.exc.inj e).2.1)
    | _, _, .isFalse h => .isFalse (fun e => h (D.exc.inj e).2.2)
  | .exc _ _ _, .non => .isFalse (by intro e; cases e) | .non, .exc _ _ _ => .isFalse (by intro e; cases e)
  | .exc _ _ _, .bl _ => .isFalse (by intro e; cases e) | .bl _, .exc _ _ _ => .isFalse (by intro e; cases e)
  | .exc _ _ _, .int _ => .isFalse (by intro e; cases e) | .int _, .exc _ _ _ => .isFalse (by intro e; cases e)
  | .exc _ _ _, .str _ => .isFalse (by intro e; cases e) | .str _, .exc _ _ _ => .isFalse (by intro e; cases e)
  | .exc _ _ _, .tup _ => .isFalse (by intro e; cases e) | .tup _, .exc _ _ _ => .isFalse (by intro e; cases e)
  | .exc _ _ _, .sl _ => .isFalse (by intro e; cases e) | .sl _, .exc _ _ _ => .isFalse (by intro e; cases e)
  | .exc _ _ _, .ref _ => .isFalse (by intro e; cases e) | .ref _, .exc _ _ _ => .isFalse (by intro e; cases e)
  | .non, .bl _ => .isFalse (by intro e; cases e) | .non, .int _ => .isFalse (by intro e; cases e) | .non, .str _ => .isFalse (by intro e; cases e) | .non, .tup _ => .isFalse (by intro e; cases e) | .non, .sl _ => .isFalse (by intro e; cases e) | .non, .ref _ => .isFalse (by intro e; cases e)
  | .bl _, .non => .isFalse (by intro e; cases e) | .bl _, .int _ => .isFalse (by intro e; cases e) | .bl _, .str _ => .isFalse (by intro e; cases e) | .bl _, .tup _ => .isFalse (by intro e; cases e) | .bl _, .sl _ => .isFalse (by intro e; cases e) | .bl _, .ref _ => .isFalse (by intro e; cases e)
  | .int _, .non => .isFalse (by intro e; cases e) | .int _, .bl _ => .isFalse (by intro e; cases e) | .int _, .str _ => .isFalse (by intro e; cases e) | .int _, .tup _ => .isFalse (by intro e; cases e) | .int _, .sl _ => .isFalse (by intro e; cases e) | .int _, .ref _ => .isFalse (by intro e; cases e)
  | .str _, .non => .isFalse (by intro e; cases e) | .str _, .bl _ => .isFalse (by intro e; cases e) | .str _, .int _ => .isFalse (by intro e; cases e) | .str _, .tup _ => .isFalse (by intro e; cases e) | .str _, .sl _ => .isFalse (by intro e; cases e) | .str _, .ref _ => .isFalse (by intro e; cases e)
  | .tup _, .non => .isFalse (by intro e; cases e) | .tup _, .bl _ => .isFalse (by intro e; cases e) | .tup _, .int _ => .isFalse (by intro e; cases e) | .tup _, .str _ => .isFalse (by intro e; cases e) | .tup _, .sl _ => .isFalse (by intro e; cases e) | .tup _, .ref _ => .isFalse (by intro e; cases e)
  | .sl _, .non => .isFalse (by intro e; cases e) | .sl _, .bl _ => .isFalse (by intro e; cases e) | .sl _, .int _ => .isFalse (by intro e; cases e) | .sl _, .str _ => .isFalse (by intro e; cases e) | .sl _, .tup _ => .isFalse (by intro e; cases e) | .sl _, .ref _ => .isFalse (by intro e; cases e)
  | .ref _, .non => .isFalse (by intro e; cases e) | .ref _, .bl _ => .isFalse (by intro e; cases e) | .ref _, .int _ => .isFalse (by intro e; cases e) | .ref _, .str _ => .isFalse (by intro e; cases e) | .ref _, .tup _ => .isFalse (by intro e; cases e) | .ref _, .sl _ => .isFalse (by intro e; cases e)
def D.decL : (a b : List D) → Decidable (a = b)
  | [], [] => .isTrue rfl
  | [], _ :: _ => .isFalse (by intro e; cases e)
  | _ :: _, [] => .isFalse (by intro e; cases e)
  | x :: xs, y :: ys => match D.dec x y, D.decL xs ys with
    | .isTrue h, .isTrue g => .isTrue (by rw [h, g])
    | .isFalse h, _ => .isFalse (fun e => h (List.cons.inj e).1)
    | _, .isFalse g => .isFalse (fun e => g (List.cons.inj e).2)
end
instance : DecidableEq D := D.dec

inductive O where
  | lst (xs : List D)
  | dic (tk : Bool) (kvs : List (D × D))
  | set (ks : List D)
  | ins (c : Str) (fs : List (Str × D))
  | fdc (tk : Bool) (kvs : List (D × D))
  deriving DecidableEq

/-- an exception: its class, its fields -/
structure Ex where
  cls : Str
  fs : List (Str × D)
abbrev Hst := List O
abbrev En := List (Option D)
inductive Res (α : Type) where
  | ok (a : α) (h : Hst)
  | err (x : Ex) (h : Hst)
  | bad
def Res.bind {α β : Type} (r : Res α) (f : α → Hst → Res β) : Res β := match r with
  | .ok a h => f a h
  | .err x h => .err x h
  | .bad => .bad
inductive SR where
  | nx (en : En) (h : Hst)
  | rt (v : D) (h : Hst)
  | bk (en : En) (h : Hst)
  | ct (en : En) (h : Hst)
  | err (x : Ex) (en : En) (h : Hst)
  | bad
abbrev Ev := En → Hst → Res D
abbrev Evs := En → Hst → Res (List D)
abbrev EvT := En → Hst → Res Bool
abbrev Sm := En → Hst → SR
/-- what a loop walks must stay as it is -/
inductive Chk where
  | none | some (p : Nat × List D) | two (p q : Nat × List D) | dic (n : Nat) (tk : Bool) (kvs : List (D × D))
def Chk.ok : Chk → Hst → Prop
  | .none, _ => True
  | .some p, h => h[p.1]? = .some (.lst p.2)
  | .two p q, h => h[p.1]? = .some (.lst p.2) ∧ h[q.1]? = .some (.lst q.2)
  | .dic n tk kvs, h => h[n]? = .some (.fdc tk kvs)
instance (c : Chk) (h : Hst) : Decidable (c.ok h) := by
  cases c with
  | none => exact inferInstanceAs (Decidable True)
  | some p => exact inferInstanceAs (Decidable (_ = _))
  | two p q => exact inferInstanceAs (Decidable (_ ∧ _))
  | dic n tk kvs => exact inferInstanceAs (Decidable (_ = _))
abbrev EvI := En → Hst → Res (List D × Chk)

/-! ### how they stand for the layer's values -/
/-- a list that nobody writes -/
def SqI (K : KW) (H : Hp) (a : Addr) (xs : List V) : Prop :=
  (∃ o, H a = some (.frz o (.lst xs))) ∨
    ∃ (o : Obj) (its : Array Value) (n : Nat), K.K.lookup a = some o ∧ o.cls = .type "list" ∧ o.dict = none ∧ o.data = .seq its n ∧ its.size ≤ sizeLine ∧ Vals xs its.toList
theorem SqI.seq {K : KW} {H : Hp} {a : Addr} {xs : List V} (h : SqI K H a xs) : SqL K H a xs := by
  rcases h with h | h
  · exact .inl (.inr h)
  · exact .inr h

/-- a text that may stand in the heap -/
structure StrB (s : List Nat) : Prop where
  len : s.length ≤ sizeLine
  cp : ∀ c ∈ s, c < 1114112
/-- an exception's own dict -/
def XdAt (H : Hp) (d : Option Addr) (ws : List (Str × V)) (ns : List Str) : Prop := (d = none ∧ ws = [] ∧ ns = []) ∨ ∃ b, d = some b ∧ H b = some (.xd ws) ∧ ns = ws.map (·.1)
mutual
inductive RD (K : KW) (m : List Addr) (H : Hp) : D → V → Prop
  | non : RD K m H .non .non
  | bl (b : Bool) : RD K m H (.bl b) (.bl b)
  | int (i : Int) : RD K m H (.int i) (.int i)
  | str {s : List Nat} : StrB s → RD K m H (.str s) (.str ⟨s.toArray⟩)
  | tup {ds : List D} {vs : List V} {a : Addr} : ds.length ≤ sizeLine → H a = some (.tup vs) → RDs K m H ds vs → RD K m H (.tup ds) (.ref a)
  | sl {ds : List D} {vs : List V} {a : Addr} : ds.length ≤ sizeLine → SqI K H a vs → RDs K m H ds vs → RD K m H (.sl ds) (.ref a)
  | ref {n : Nat} {a : Addr} : m[n]? = some a → RD K m H (.ref n) (.ref a)
  | exc {c : Str} {ns : List Str} {ds : List D} {a : Addr} {oe : Obj} {vs : Array Value} {ws : List (Str × V)} : K.hx = some (a, oe) → oe.data = .fields vs → oe.cls = .ref (He.ga K.K c) → XdAt H oe.dict ws ns → RDs K m H ds (ws.map (·.2)) → RD K m H (.exc c ns ds) (.ref a)
inductive RDs (K : KW) (m : List Addr) (H : Hp) : List D → List V → Prop
  | nil : RDs K m H [] []
  | cons {d : D} {ds : List D} {v : V} {vs : List V} : RD K m H d v → RDs K m H ds vs → RDs K m H (d :: ds) (v :: vs)
end

/-- what values lean on -/
structure Ex0 (K : KW) (m : List Addr) (H : Hp) (m' : List Addr) (H' : Hp) : Prop where
  pre : ∀ (n : Nat) (a : Addr), m[n]? = some a → m'[n]? = some a
  tup : ∀ a vs, H a = some (.tup vs) → H' a = some (.tup vs)
  sl : ∀ a vs, SqI K H a vs → SqI K H' a vs
  xd : ∀ a vs, H a = some (.xd vs) → H' a = some (.xd vs)
/-- from one state to a later one -/
structure Ext (K : KW) (m : List Addr) (H : Hp) (m' : List Addr) (H' : Hp) : Prop where
  pre : ∀ (n : Nat) (a : Addr), m[n]? = some a → m'[n]? = some a
  tup : ∀ a vs, H a = some (.tup vs) → H' a = some (.tup vs)
  sl : ∀ a vs, SqI K H a vs → SqI K H' a vs
  xd : ∀ a vs, H a = some (.xd vs) → H' a = some (.xd vs)
  /-- what is locked stays locked -/
  frz : ∀ a f u, H a = some (.frz f u) → H' a = some (.frz f u)
  /-- what is no object of the small language stays -/
  frm : ∀ a o, H a = some o → a ∉ m → H' a = some o
  new : ∀ a, a ∈ m' → a ∈ m ∨ H a = none

instance {K : KW} {m m' : List Addr} {H H' : Hp} : Coe (Ext K m H m' H') (Ex0 K m H m' H') := ⟨fun x => ⟨x.pre, x.tup, x.sl, x.xd⟩⟩
section
variable {K : KW} {m m1 m2 : List Addr} {H H1 H2 : Hp}
theorem Ext.e (x : Ext K m H m1 H1) : Ex0 K m H m1 H1 := ⟨x.pre, x.tup, x.sl, x.xd⟩
theorem Ext.refl : Ext K m H m H := ⟨fun _ _ h => h, fun _ _ h => h, fun _ _ h => h, fun _ _ h => h, fun _ _ _ h => h, fun _ _ h _ => h, fun _ h => .inl h⟩
theorem Ext.trans (a : Ext K m H m1 H1) (b : Ext K m1 H1 m2 H2) : Ext K m H m2 H2 :=
  ⟨fun n c h => b.pre n c (a.pre n c h), fun c vs h => b.tup c vs (a.tup c vs h), fun c vs h => b.sl c vs (a.sl c vs h), fun c vs h => b.xd c vs (a.xd c vs h), fun c f u h => b.frz c f u (a.frz c f u h), fun c o h n => b.frm c o (a.frm c o h n) fun z => (a.new c z).elim n (fun q => by rw [h] at q; cases q), fun c h => by
    rcases b.new c h with q | q
    · exact a.new c q
    · cases e : H c with
      | none => exact .inr rfl
      | some o =>
        by_cases hm : c ∈ m
        · exact .inl hm
        · rw [a.frm c o e hm] at q; cases q⟩
/-- a place that may be written: free, an object that changes, a locked dict -/
def Wr : Option HO → Prop
  | some (.frz _ (.dK _)) => True
  | some (.frz _ (.dT _)) => True
  | o => o = none ∨ Mut o
theorem wr_of {o : Option HO} (h : o = none ∨ Mut o) : Wr o := by
  unfold Wr
  split
  · trivial
  · trivial
  · exact h
theorem Wr.tup {o : Option HO} (h : Wr o) (vs : List V) : o ≠ some (.tup vs) := by
  rintro rfl
  rcases h with h | h
  · cases h
  · exact h
theorem Wr.sl {o : Option HO} (h : Wr o) (f : Obj) (vs : List V) : o ≠ some (.frz f (.lst vs)) := by
  rintro rfl
  rcases h with h | h
  · cases h
  · exact h
theorem Ext.upd1 {a : Addr} {o : HO} (h : Wr (H a)) : (∀ b vs, H b = some (.tup vs) → upd H a o b = some (.tup vs)) ∧ ∀ b vs, SqI K H b vs → SqI K (upd H a o) b vs := by
  refine ⟨fun b vs q => ?_, fun b vs q => ?_⟩
  · rw [upd_ne (fun z => by subst z; exact h.tup _ q)]; exact q
  · rcases q with ⟨u, q⟩ | q
    · exact .inl ⟨u, by rw [upd_ne (fun z => by subst z; exact h.sl _ _ q)]; exact q⟩
    · exact .inr q
theorem Ext.upd0 {a : Addr} {o : HO} (h : H a = none ∨ Mut (H a)) : (∀ b vs, H b = some (.tup vs) → upd H a o b = some (.tup vs)) ∧ ∀ b vs, SqI K H b vs → SqI K (upd H a o) b vs := Ext.upd1 (wr_of h)
theorem Ext.updF {a : Addr} {o : HO} (h : H a = none ∨ Mut (H a)) : ∀ b f u, H b = some (.frz f u) → upd H a o b = some (.frz f u) := fun b f u q => by
  rw [upd_ne (fun z => by
    subst z
    rcases h with h | h
    · rw [h] at q; cases q
    · rw [q] at h; exact h)]
  exact q
theorem Ext.updX1 {a : Addr} {o : HO} (h : Wr (H a)) : ∀ b vs, H b = some (.xd vs) → upd H a o b = some (.xd vs) := fun b vs q => by
  rw [upd_ne (fun z => by
    subst z
    rw [q] at h
    rcases h with h | h
    · cases h
    · exact h)]
  exact q
theorem Ext.updX {a : Addr} {o : HO} (h : H a = none ∨ Mut (H a)) : ∀ b vs, H b = some (.xd vs) → upd H a o b = some (.xd vs) := Ext.updX1 (wr_of h)
theorem Ex0.write {a : Addr} {o : HO} (h : Wr (H a)) : Ex0 K m H m (upd H a o) := ⟨fun _ _ q => q, (Ext.upd1 (K := K) h).1, (Ext.upd1 h).2, Ext.updX1 h⟩
/-- a place that is free is written -/
theorem Ext.fresh {a : Addr} {o : HO} (h : H a = none) : Ext K m H m (upd H a o) :=
  ⟨fun _ _ q => q, (Ext.upd0 (K := K) (.inl h)).1, (Ext.upd0 (.inl h)).2, Ext.updX (.inl h), Ext.updF (.inl h), fun b u e _ => by rw [upd_ne (fun z => by subst z; rw [h] at e; cases e)]; exact e, fun _ q => .inl q⟩
/-- .. and becomes an object of the small language -/
theorem Ext.push {a : Addr} {o : HO} (h : H a = none) : Ext K m H (m ++ [a]) (upd H a o) :=
  ⟨fun n b e => by rw [List.getElem?_append_left (List.getElem?_eq_some_iff.mp e).1]; exact e, (Ext.upd0 (K := K) (.inl h)).1, (Ext.upd0 (.inl h)).2, Ext.updX (.inl h), Ext.updF (.inl h), fun b u e _ => by rw [upd_ne (fun z => by subst z; rw [h] at e; cases e)]; exact e, fun b q => by
    rcases List.mem_append.mp q with q | q
    · exact .inl q
    · have : b = a := by simpa using q
      subst this
      exact .inr h⟩
/-- an object of the small language is written -/
theorem Ext.write {a : Addr} {o : HO} {n : Nat} (ha : m[n]? = some a) (h : Mut (H a)) : Ext K m H m (upd H a o) :=
  ⟨fun _ _ q => q, (Ext.upd0 (K := K) (.inr h)).1, (Ext.upd0 (.inr h)).2, Ext.updX (.inr h), Ext.updF (.inr h), fun b u e nm => by rw [upd_ne (fun z => by subst z; exact nm (List.mem_of_getElem? ha))]; exact e, fun _ q => .inl q⟩
theorem XdAt.mono {d : Option Addr} {ws : List (Str × V)} {ns : List Str} (x : Ex0 K m H m1 H1) (h : XdAt H d ws ns) : XdAt H1 d ws ns := h.imp id fun ⟨b, e, q, n⟩ => ⟨b, e, x.xd _ _ q, n⟩
mutual
theorem RD.mono (x : Ex0 K m H m1 H1) : ∀ {d : D} {v : V}, RD K m H d v → RD K m1 H1 d v
  | _, _, .non => .non
  | _, _, .bl b => .bl b
  | _, _, .int i => .int i
  | _, _, .str b => .str b
  | _, _, .tup l h r => .tup l (x.tup _ _ h) (RDs.mono x r)
  | _, _, .sl l h r => .sl l (x.sl _ _ h) (RDs.mono x r)
  | _, _, .ref h => .ref (x.pre _ _ h)
  | _, _, .exc h1 h2 h3 h4 r => .exc h1 h2 h3 (h4.mono x) (RDs.mono x r)
theorem RDs.mono (x : Ex0 K m H m1 H1) : ∀ {ds : List D} {vs : List V}, RDs K m H ds vs → RDs K m1 H1 ds vs
  | _, _, .nil => .nil
  | _, _, .cons r rs => .cons (RD.mono x r) (RDs.mono x rs)
end
theorem RDs.length : ∀ {ds : List D} {vs : List V}, RDs K m H ds vs → ds.length = vs.length
  | _, _, .nil => rfl
  | _, _, .cons _ rs => congrArg Nat.succ rs.length
theorem RDs.get : ∀ {ds : List D} {vs : List V}, RDs K m H ds vs → ∀ {i : Nat} {d : D}, ds[i]? = some d → ∃ v, vs[i]? = some v ∧ RD K m H d v
  | _, _, .nil, _, _, e => by simp at e
  | _, _, .cons r _, 0, _, e => by simp at e; subst e; exact ⟨_, rfl, r⟩
  | _, _, .cons _ rs, i + 1, _, e => by
    obtain ⟨v, h1, h2⟩ := rs.get (i := i) (by simpa using e)
    exact ⟨v, by simpa using h1, h2⟩
theorem RDs.getV : ∀ {ds : List D} {vs : List V}, RDs K m H ds vs → ∀ {i : Nat} {v : V}, vs[i]? = some v → ∃ d, ds[i]? = some d ∧ RD K m H d v
  | _, _, .nil, _, _, e => by simp at e
  | _, _, .cons r _, 0, _, e => by simp at e; subst e; exact ⟨_, rfl, r⟩
  | _, _, .cons _ rs, i + 1, _, e => by
    obtain ⟨v, h1, h2⟩ := rs.getV (i := i) (by simpa using e)
    exact ⟨v, by simpa using h1, h2⟩
theorem RDs.append : ∀ {ds es : List D} {vs ws : List V}, RDs K m H ds vs → RDs K m H es ws → RDs K m H (ds ++ es) (vs ++ ws)
  | _, _, _, _, .nil, s => s
  | _, _, _, _, .cons r rs, s => .cons r (rs.append s)
theorem RDs.one {d : D} {v : V} (r : RD K m H d v) : RDs K m H [d] [v] := .cons r .nil
theorem RDs.drop : ∀ {ds : List D} {vs : List V} (n : Nat), RDs K m H ds vs → RDs K m H (ds.drop n) (vs.drop n)
  | _, _, 0, r => r
  | _, _, _ + 1, .nil => .nil
  | _, _, n + 1, .cons _ rs => RDs.drop n rs
theorem RDs.take : ∀ {ds : List D} {vs : List V} (n : Nat), RDs K m H ds vs → RDs K m H (ds.take n) (vs.take n)
  | _, _, 0, _ => .nil
  | _, _, _ + 1, .nil => .nil
  | _, _, n + 1, .cons r rs => .cons r (RDs.take n rs)
theorem RDs.set {d : D} {v : V} (r : RD K m H d v) : ∀ {ds : List D} {vs : List V} (i : Nat), RDs K m H ds vs → RDs K m H (ds.set i d) (vs.set i v)
  | _, _, _, .nil => .nil
  | _, _, 0, .cons _ rs => .cons r rs
  | _, _, i + 1, .cons q rs => .cons q (RDs.set r i rs)
theorem RDs.eraseIdx : ∀ {ds : List D} {vs : List V} (i : Nat), RDs K m H ds vs → RDs K m H (ds.eraseIdx i) (vs.eraseIdx i)
  | _, _, _, .nil => .nil
  | _, _, 0, .cons _ rs => rs
  | _, _, i + 1, .cons q rs => .cons q (RDs.eraseIdx i rs)
theorem RDs.reverse {ds : List D} {vs : List V} (r : RDs K m H ds vs) : RDs K m H ds.reverse vs.reverse := by
  induction ds generalizing vs with
  | nil => cases r; exact .nil
  | cons d ds ih =>
    cases r with
    | cons r rs =>
      rw [List.reverse_cons, List.reverse_cons]
      exact (ih rs).append (.one r)
theorem RDs.dropLast {ds : List D} {vs : List V} (r : RDs K m H ds vs) : RDs K m H ds.dropLast vs.dropLast := by
  rw [List.dropLast_eq_take, List.dropLast_eq_take, r.length]
  exact r.take _
end

/-! ### objects -/
def keyD : D → Option Key
  | .int i => some (.inl i)
  | .str s => some (.inr ⟨s.toArray⟩)
  | _ => none
def keysD : List D → Option (List Key)
  | [] => some []
  | d :: ds => match keyD d, keysD ds with
    | some k, some ks => some (k :: ks)
    | _, _ => none
def tkeyD : D → Option (List Key)
  | .tup ds => keysD ds
  | _ => none
/-- a key that may stand in a dict -/
def KG1 : D → Prop
  | .str s => StrB s
  | _ => True
def KG : D → Prop
  | .str s => StrB s
  | .tup ds => ds.length ≤ sizeLine ∧ ∀ d ∈ ds, KG1 d
  | _ => True
inductive RKV (K : KW) (m : List Addr) (H : Hp) {κ : Type} (kd : D → Option κ) : List (D × D) → List (κ × V) → Prop
  | nil : RKV K m H kd [] []
  | cons {k d : D} {c : κ} {v : V} {kvs : List (D × D)} {ws : List (κ × V)} : kd k = some c ∧ KG k → RD K m H d v → RKV K m H kd kvs ws → RKV K m H kd ((k, d) :: kvs) ((c, v) :: ws)
inductive RFs (K : KW) (m : List Addr) (H : Hp) : List (Str × D) → List (Str × V) → Prop
  | nil : RFs K m H [] []
  | cons {f : Str} {d : D} {v : V} {fs : List (Str × D)} {ws : List (Str × V)} : RD K m H d v → RFs K m H fs ws → RFs K m H ((f, d) :: fs) ((f, v) :: ws)
section
variable {K : KW} {m m1 m2 : List Addr} {H H1 H2 : Hp}
theorem RKV.mono {κ : Type} {kd : D → Option κ} (x : Ex0 K m H m1 H1) : ∀ {kvs : List (D × D)} {ws : List (κ × V)}, RKV K m H kd kvs ws → RKV K m1 H1 kd kvs ws
  | _, _, .nil => .nil
  | _, _, .cons e r rs => .cons e (r.mono x) (RKV.mono x rs)
theorem RFs.mono (x : Ex0 K m H m1 H1) : ∀ {fs : List (Str × D)} {ws : List (Str × V)}, RFs K m H fs ws → RFs K m1 H1 fs ws
  | _, _, .nil => .nil
  | _, _, .cons r rs => .cons (r.mono x) (RFs.mono x rs)
theorem RFs.length : ∀ {fs : List (Str × D)} {ws : List (Str × V)}, RFs K m H fs ws → fs.length = ws.length
  | _, _, .nil => rfl
  | _, _, .cons _ rs => congrArg Nat.succ (RFs.length rs)
/-- an object of the small language at an address -/
def RO (K : KW) (m : List Addr) (H : Hp) (a : Addr) : O → Prop
  | .lst ds => ds.length ≤ sizeLine ∧ ∃ vs, H a = some (.lst vs) ∧ RDs K m H ds vs
  | .dic false kvs => ∃ ws : List (Key × V), H a = some (.dK ws) ∧ RKV K m H keyD kvs ws
  | .dic true kvs => ∃ ws : List (List Key × V), H a = some (.dT ws) ∧ RKV K m H tkeyD kvs ws
  | .set ks => ∃ (P : Program) (S : Key → Bool) (keys : List Key), H a = some (SetK P K.w a S ks.length) ∧ keysD ks = some keys ∧ ∀ k, S k = true ↔ k ∈ keys
  | .ins c fs => ∃ dx ws, H a = some (.ins (He.ga K c) dx ws) ∧ RFs K m H fs ws
  | .fdc false kvs => ∃ (f : Obj) (ws : List (Key × V)), H a = some (.frz f (.dK ws)) ∧ RKV K m H keyD kvs ws
  | .fdc true kvs => ∃ (f : Obj) (ws : List (List Key × V)), H a = some (.frz f (.dT ws)) ∧ RKV K m H tkeyD kvs ws
/-- the heap -/
structure RH (K : KW) (m : List Addr) (H : Hp) (h : Hst) : Prop where
  len : m.length = h.length
  nd : m.Nodup
  at_ : ∀ (n : Nat) (o : O), h[n]? = some o → ∃ a, m[n]? = some a ∧ RO K m H a o
theorem RO.mut {a : Addr} {o : O} (r : RO K m H a o) (nf : ∀ tk kvs, o ≠ .fdc tk kvs) : ∃ u, H a = some u ∧ Mut (some u) := by
  cases o with
  | lst ds => obtain ⟨_, vs, e, _⟩ := r; exact ⟨_, e, trivial⟩
  | dic b kvs =>
    cases b with
    | false => obtain ⟨ws, e, _⟩ := r; exact ⟨_, e, trivial⟩
    | true => obtain ⟨ws, e, _⟩ := r; exact ⟨_, e, trivial⟩
  | set ks => obtain ⟨P, S, keys, e, _⟩ := r; exact ⟨_, e, trivial⟩
  | ins c fs => obtain ⟨dx, ws, e, _⟩ := r; exact ⟨_, e, trivial⟩
  | fdc tk kvs => exact absurd rfl (nf tk kvs)
theorem RO.here {a : Addr} {o : O} (r : RO K m H a o) : ∃ u, H a = some u := by
  cases o with
  | fdc tk kvs => cases tk <;> (obtain ⟨f, ws, e, _⟩ := r; exact ⟨_, e⟩)
  | lst ds => exact (r.mut fun _ _ z => nomatch z).imp fun _ z => z.1
  | dic b kvs => exact (r.mut fun _ _ z => nomatch z).imp fun _ z => z.1
  | set ks => exact (r.mut fun _ _ z => nomatch z).imp fun _ z => z.1
  | ins c fs => exact (r.mut fun _ _ z => nomatch z).imp fun _ z => z.1
/-- the object's own place stands as it is -/
theorem RO.mono {a : Addr} {o : O} (x : Ex0 K m H m1 H1) (e : H1 a = H a) (r : RO K m H a o) : RO K m1 H1 a o := by
  cases o with
  | lst ds => obtain ⟨l, vs, q, r⟩ := r; exact ⟨l, vs, by rw [e]; exact q, r.mono x⟩
  | dic b kvs =>
    cases b with
    | false => obtain ⟨ws, q, r⟩ := r; exact ⟨ws, by rw [e]; exact q, r.mono x⟩
    | true => obtain ⟨ws, q, r⟩ := r; exact ⟨ws, by rw [e]; exact q, r.mono x⟩
  | set ks => obtain ⟨P, S, keys, q, r⟩ := r; exact ⟨P, S, keys, by rw [e]; exact q, r⟩
  | ins c fs => obtain ⟨dx, ws, q, r⟩ := r; exact ⟨dx, ws, by rw [e]; exact q, r.mono x⟩
  | fdc tk kvs => cases tk <;> (obtain ⟨f, ws, q, r⟩ := r; exact ⟨f, ws, by rw [e]; exact q, r.mono x⟩)
theorem RH.look {h : Hst} (R : RH K m H h) {n : Nat} {a : Addr} {o : O} (ha : m[n]? = some a) (e : h[n]? = some o) : RO K m H a o := by
  obtain ⟨b, hb, r⟩ := R.at_ n o e
  rw [ha] at hb; cases hb
  exact r
theorem RH.free {h : Hst} (R : RH K m H h) {p : Addr} (hp : H p = none) : p ∉ m := fun hm => by
  obtain ⟨n, hn⟩ := List.getElem?_of_mem hm
  have hl : n < h.length := by rw [← R.len]; exact (List.getElem?_eq_some_iff.mp hn).1
  obtain ⟨u, e⟩ := (R.look hn (List.getElem?_eq_getElem hl)).here
  rw [hp] at e; cases e
/-- an object at a new place -/
theorem RH.push {h : Hst} (R : RH K m H h) {p : Addr} {u : HO} {o : O} (hp : H p = none) (r : RO K (m ++ [p]) (upd H p u) p o) : RH K (m ++ [p]) (upd H p u) (h ++ [o]) := by
  refine ⟨by simp [R.len], ?_, fun n o' e => ?_⟩
  · rw [List.nodup_append]
    refine ⟨R.nd, by simp, fun b hb c hc => ?_⟩
    have : c = p := by simpa using hc
    subst this
    rintro rfl
    exact R.free hp hb
  · by_cases hn : n < h.length
    · rw [List.getElem?_append_left hn] at e
      obtain ⟨a, ha, ro⟩ := R.at_ n o' e
      refine ⟨a, by rw [List.getElem?_append_left (by rw [R.len]; exact hn)]; exact ha, ro.mono (Ext.push hp).e (upd_ne ?_)⟩
      rintro rfl
      exact R.free hp (List.mem_of_getElem? ha)
    · have hl : n = h.length := by
        have := (List.getElem?_eq_some_iff.mp e).1
        simp at this
        omega
      subst hl
      rw [List.getElem?_concat_length] at e
      cases e
      exact ⟨p, by rw [← R.len, List.getElem?_concat_length], r⟩
/-- a place that is no object of the small language -/
theorem RH.other {h : Hst} (R : RH K m H h) {p : Addr} {u : HO} (hp : p ∉ m) (x : Ex0 K m H m (upd H p u)) : RH K m (upd H p u) h :=
  ⟨R.len, R.nd, fun n o e => by
    obtain ⟨a, ha, ro⟩ := R.at_ n o e
    refine ⟨a, ha, ro.mono x (upd_ne ?_)⟩
    rintro rfl
    exact hp (List.mem_of_getElem? ha)⟩
/-- a new place that is no object of the small language -/
theorem RH.laid {h : Hst} (R : RH K m H h) {p : Addr} {u : HO} (hp : H p = none) : RH K m (upd H p u) h :=
  ⟨R.len, R.nd, fun n o e => by
    obtain ⟨a, ha, ro⟩ := R.at_ n o e
    refine ⟨a, ha, ro.mono (Ext.fresh hp).e (upd_ne ?_)⟩
    rintro rfl
    exact R.free hp (List.mem_of_getElem? ha)⟩
/-- an object is written -/
theorem RH.writeW {h : Hst} (R : RH K m H h) {n : Nat} {a : Addr} {u : HO} {o : O} (ha : m[n]? = some a) (mu : Wr (H a)) (r : RO K m (upd H a u) a o) : RH K m (upd H a u) (h.set n o) := by
  have hl : n < h.length := by rw [← R.len]; exact (List.getElem?_eq_some_iff.mp ha).1
  refine ⟨by simp [R.len], R.nd, fun j o' e => ?_⟩
  by_cases hj : n = j
  · subst hj
    rw [List.getElem?_set_self hl] at e
    cases e
    exact ⟨a, ha, r⟩
  · rw [List.getElem?_set_ne hj] at e
    obtain ⟨b, hb, ro⟩ := R.at_ j o' e
    refine ⟨b, hb, ro.mono (Ex0.write mu) (upd_ne ?_)⟩
    rintro rfl
    exact hj ((List.getElem?_inj (List.getElem?_eq_some_iff.mp ha).1 R.nd).mp (by rw [ha, hb]))
theorem RH.write {h : Hst} (R : RH K m H h) {n : Nat} {a : Addr} {u : HO} {o : O} (ha : m[n]? = some a) (mu : Mut (H a)) (r : RO K m (upd H a u) a o) : RH K m (upd H a u) (h.set n o) := R.writeW ha (wr_of (.inr mu)) r
/-- an object that stands becomes one of the small language -/
theorem RH.adopt {h : Hst} (R : RH K m H h) {p : Addr} {o : O} (hp : p ∉ m) (r : RO K (m ++ [p]) H p o) (x : Ex0 K m H (m ++ [p]) H) : RH K (m ++ [p]) H (h ++ [o]) := by
  refine ⟨by simp [R.len], ?_, fun n o' e => ?_⟩
  · rw [List.nodup_append]
    refine ⟨R.nd, by simp, fun b hb c hc => ?_⟩
    have : c = p := by simpa using hc
    subst this
    rintro rfl
    exact hp hb
  · by_cases hn : n < h.length
    · rw [List.getElem?_append_left hn] at e
      obtain ⟨a, ha, ro⟩ := R.at_ n o' e
      exact ⟨a, by rw [List.getElem?_append_left (by rw [R.len]; exact hn)]; exact ha, ro.mono x rfl⟩
    · have hl : n = h.length := by
        have := (List.getElem?_eq_some_iff.mp e).1
        simp at this
        omega
      subst hl
      rw [List.getElem?_concat_length] at e
      cases e
      exact ⟨p, by rw [← R.len, List.getElem?_concat_length], r⟩
mutual
/-- what was known at the start is known by the start's places -/
theorem RD.down {m0 : List Addr} {H0 : Hp} (x : ∀ (n : Nat) (a : Addr), m0[n]? = some a → m[n]? = some a) : ∀ {d : D} {v0 v : V}, RD K m0 H0 d v0 → RD K m H d v → RD K m0 H d v
  | _, _, _, .non, .non => .non
  | _, _, _, .bl b, .bl _ => .bl b
  | _, _, _, .int i, .int _ => .int i
  | _, _, _, .str b, .str _ => .str b
  | _, _, _, .tup _ _ r0, .tup l h r => .tup l h (RDs.down x r0 r)
  | _, _, _, .sl _ _ r0, .sl l h r => .sl l h (RDs.down x r0 r)
  | _, _, _, .ref h0, .ref h => .ref (by have := x _ _ h0; rw [h] at this; cases this; exact h0)
  | _, _, _, .exc _ _ _ _ r0, .exc h1 h2 h3 h4 r => .exc h1 h2 h3 h4 (RDs.down x r0 r)
theorem RDs.down {m0 : List Addr} {H0 : Hp} (x : ∀ (n : Nat) (a : Addr), m0[n]? = some a → m[n]? = some a) : ∀ {ds : List D} {vs0 vs : List V}, RDs K m0 H0 ds vs0 → RDs K m H ds vs → RDs K m0 H ds vs
  | _, _, _, .nil, .nil => .nil
  | _, _, _, .cons a as, .cons b bs => .cons (RD.down x a b) (RDs.down x as bs)
end
mutual
theorem RD.up {m' : List Addr} (x : ∀ (n : Nat) (a : Addr), m[n]? = some a → m'[n]? = some a) : ∀ {d : D} {v : V}, RD K m H d v → RD K m' H d v
  | _, _, .non => .non
  | _, _, .bl b => .bl b
  | _, _, .int i => .int i
  | _, _, .str b => .str b
  | _, _, .tup l h r => .tup l h (RDs.up x r)
  | _, _, .sl l h r => .sl l h (RDs.up x r)
  | _, _, .ref h => .ref (x _ _ h)
  | _, _, .exc h1 h2 h3 h4 r => .exc h1 h2 h3 h4 (RDs.up x r)
theorem RDs.up {m' : List Addr} (x : ∀ (n : Nat) (a : Addr), m[n]? = some a → m'[n]? = some a) : ∀ {ds : List D} {vs : List V}, RDs K m H ds vs → RDs K m' H ds vs
  | _, _, .nil => .nil
  | _, _, .cons r rs => .cons (RD.up x r) (RDs.up x rs)
end
theorem RKV.up {m' : List Addr} {κ : Type} {kd : D → Option κ} (x : ∀ (n : Nat) (a : Addr), m[n]? = some a → m'[n]? = some a) : ∀ {kvs : List (D × D)} {ws : List (κ × V)}, RKV K m H kd kvs ws → RKV K m' H kd kvs ws
  | _, _, .nil => .nil
  | _, _, .cons e r rs => .cons e (r.up x) (RKV.up x rs)
theorem RFs.up {m' : List Addr} (x : ∀ (n : Nat) (a : Addr), m[n]? = some a → m'[n]? = some a) : ∀ {fs : List (Str × D)} {ws : List (Str × V)}, RFs K m H fs ws → RFs K m' H fs ws
  | _, _, .nil => .nil
  | _, _, .cons r rs => .cons (r.up x) (RFs.up x rs)
theorem RO.up {m' : List Addr} (x : ∀ (n : Nat) (a : Addr), m[n]? = some a → m'[n]? = some a) {a : Addr} {o : O} (r : RO K m H a o) : RO K m' H a o := by
  cases o with
  | lst ds => obtain ⟨l, vs, q, r⟩ := r; exact ⟨l, vs, q, r.up x⟩
  | dic b kvs =>
    cases b with
    | false => obtain ⟨ws, q, r⟩ := r; exact ⟨ws, q, r.up x⟩
    | true => obtain ⟨ws, q, r⟩ := r; exact ⟨ws, q, r.up x⟩
  | set ks => exact r
  | ins c fs => obtain ⟨dx, ws, q, r⟩ := r; exact ⟨dx, ws, q, r.up x⟩
  | fdc tk kvs => cases tk <;> (obtain ⟨f, ws, q, r⟩ := r; exact ⟨f, ws, q, r.up x⟩)
theorem RKV.down {κ : Type} {kd : D → Option κ} {m0 : List Addr} {H0 : Hp} (x : ∀ (n : Nat) (a : Addr), m0[n]? = some a → m[n]? = some a) : ∀ {kvs : List (D × D)} {w0 ws : List (κ × V)}, RKV K m0 H0 kd kvs w0 → RKV K m H kd kvs ws → RKV K m0 H kd kvs ws
  | _, _, _, .nil, .nil => .nil
  | _, _, _, .cons _ a as, .cons e b bs => .cons e (RD.down x a b) (RKV.down x as bs)
theorem RFs.down {m0 : List Addr} {H0 : Hp} (x : ∀ (n : Nat) (a : Addr), m0[n]? = some a → m[n]? = some a) : ∀ {fs : List (Str × D)} {w0 ws : List (Str × V)}, RFs K m0 H0 fs w0 → RFs K m H fs ws → RFs K m0 H fs ws
  | _, _, _, .nil, .nil => .nil
  | _, _, _, .cons a as, .cons b bs => .cons (RD.down x a b) (RFs.down x as bs)
theorem RO.down {m0 : List Addr} {H0 : Hp} (x : ∀ (n : Nat) (a : Addr), m0[n]? = some a → m[n]? = some a) {a : Addr} {o : O} (r0 : RO K m0 H0 a o) (r : RO K m H a o) : RO K m0 H a o := by
  cases o with
  | lst ds => obtain ⟨_, _, _, r0⟩ := r0; obtain ⟨l, vs, q, r⟩ := r; exact ⟨l, vs, q, r0.down x r⟩
  | dic b kvs =>
    cases b with
    | false => obtain ⟨_, _, r0⟩ := r0; obtain ⟨ws, q, r⟩ := r; exact ⟨ws, q, r0.down x r⟩
    | true => obtain ⟨_, _, r0⟩ := r0; obtain ⟨ws, q, r⟩ := r; exact ⟨ws, q, r0.down x r⟩
  | set ks => exact r
  | ins c fs => obtain ⟨_, _, _, r0⟩ := r0; obtain ⟨dx, ws, q, r⟩ := r; exact ⟨dx, ws, q, r0.down x r⟩
  | fdc tk kvs => cases tk <;> (obtain ⟨_, _, _, r0⟩ := r0; obtain ⟨f, ws, q, r⟩ := r; exact ⟨f, ws, q, r0.down x r⟩)
/-- only the first objects, which are as they were -/
theorem RH.first {h h0 : Hst} {m0 : List Addr} {H0 : Hp} (R : RH K m H h) (R0 : RH K m0 H0 h0) (x : Ext K m0 H0 m H) (e : h.take h0.length = h0) : RH K m0 H h0 := by
  refine ⟨R0.len, R0.nd, fun j o q => ?_⟩
  obtain ⟨a, ha, r0⟩ := R0.at_ j o q
  have hj : j < h0.length := (List.getElem?_eq_some_iff.mp q).1
  have q' : h[j]? = some o := by
    rw [← e, List.getElem?_take, if_pos hj] at q
    exact q
  exact ⟨a, ha, r0.down x.pre (R.look (x.pre _ _ ha) q')⟩
/-! ### values that name no object -/
mutual
def D.noRef : D → Bool
  | .ref _ => false
  | .tup ds => D.noRefs ds
  | .sl ds => D.noRefs ds
  | .exc _ _ ds => D.noRefs ds
  | _ => true
def D.noRefs : List D → Bool
  | [] => true
  | d :: ds => d.noRef && D.noRefs ds
end
mutual
theorem RD.any {m' : List Addr} : ∀ {d : D} {v : V}, d.noRef = true → RD K m H d v → RD K m' H d v
  | _, _, _, .non => .non
  | _, _, _, .bl b => .bl b
  | _, _, _, .int i => .int i
  | _, _, _, .str b => .str b
  | _, _, h, .tup l q r => .tup l q (RDs.any (by simpa [D.noRef] using h) r)
  | _, _, h, .sl l q r => .sl l q (RDs.any (by simpa [D.noRef] using h) r)
  | _, _, h, .ref _ => by simp [D.noRef] at h
  | _, _, h, .exc h1 h2 h3 h4 r => .exc h1 h2 h3 h4 (RDs.any (by simpa [D.noRef] using h) r)
theorem RDs.any {m' : List Addr} : ∀ {ds : List D} {vs : List V}, D.noRefs ds = true → RDs K m H ds vs → RDs K m' H ds vs
  | _, _, _, .nil => .nil
  | _, _, h, .cons r rs => by
    simp only [D.noRefs, Bool.and_eq_true] at h
    exact .cons (RD.any h.1 r) (RDs.any h.2 rs)
end
/-- an object whose values name no object -/
def O.flat : O → Bool
  | .lst ds => D.noRefs ds
  | _ => false
theorem RO.any {m' : List Addr} {a : Addr} {o : O} (f : o.flat = true) (r : RO K m H a o) : RO K m' H a o := by
  cases o with
  | lst ds => obtain ⟨l, vs, q, r⟩ := r; exact ⟨l, vs, q, r.any f⟩
  | dic b kvs => cases f
  | set ks => cases f
  | ins c fs => cases f
  | fdc tk kvs => cases f
end
/-- behind a call: what is left of the heap. If the caller's objects are as they were, nothing but the answer is kept -/
def finish (h : Hst) (v : D) (h' : Hst) : Res D :=
  if h'.length = h.length then .ok v h'
  else if h'.take h.length = h then
    match v with
    | .ref n => if n < h.length then .ok v h else
        match h'[n]? with
        | some o => if o.flat = true then .ok (.ref h.length) (h ++ [o]) else .ok v h'
        | none => .ok v h'
    | v => if v.noRef = true then .ok v h else .ok v h'
  else .ok v h'
section
variable {K : KW} {m m0 : List Addr} {H H0 : Hp} {h h0 : Hst} {d : D} {v : V}
theorem more {m : List Addr} (x : List Addr) : ∀ (n : Nat) (a : Addr), m[n]? = some a → (m ++ x)[n]? = some a := fun n a e => by
  rw [List.getElem?_append_left (List.getElem?_eq_some_iff.mp e).1]; exact e
theorem finish_ok (R0 : RH K m0 H0 h0) (x : Ext K m0 H0 m H) (R : RH K m H h) (r : RD K m H d v) :
    ∃ m' d' h', finish h0 d h = .ok d' h' ∧ Ext K m0 H0 m' H ∧ RH K m' H h' ∧ RD K m' H d' v := by
  have triv : ∃ m' d' h', Res.ok d h = .ok d' h' ∧ Ext K m0 H0 m' H ∧ RH K m' H h' ∧ RD K m' H d' v := ⟨m, d, h, rfl, x, R, r⟩
  have low : ∀ n a, m[n]? = some a → n < h0.length → m0[n]? = some a := fun n a e hn => by
    have hn' : n < m0.length := by rw [R0.len]; exact hn
    have q := x.pre n _ (List.getElem?_eq_getElem hn')
    rw [e] at q
    rw [List.getElem?_eq_getElem hn', ← Option.some.inj q]
  unfold finish
  split
  · exact triv
  · split
    · rename_i ht
      have R1 : RH K m0 H h0 := R.first R0 x ht
      have x1 : Ext K m0 H0 m0 H := ⟨fun _ _ q => q, x.tup, x.sl, x.xd, x.frz, x.frm, fun _ q => .inl q⟩
      split
      · rename_i n
        split
        · rename_i hn
          refine ⟨m0, _, _, rfl, x1, R1, ?_⟩
          cases r with
          | ref e => exact .ref (low _ _ e hn)
        · rename_i hn
          split
          · rename_i o ho
            split
            · rename_i hf
              cases r with
              | @ref _ a e =>
                have ro := R.look e ho
                have ha : a ∉ m0 := fun hm => by
                  obtain ⟨j, hj⟩ := List.getElem?_of_mem hm
                  have hj' := x.pre _ _ hj
                  have hjl : j < m0.length := (List.getElem?_eq_some_iff.mp hj).1
                  have : j = n := (List.getElem?_inj (List.getElem?_eq_some_iff.mp hj').1 R.nd).mp (by rw [hj', e])
                  have := R0.len
                  omega
                refine ⟨m0 ++ [a], _, _, rfl, ⟨more _, x.tup, x.sl, x.xd, x.frz, x.frm, fun b hb => ?_⟩, ⟨by simp [R0.len], ?_, fun j o' q => ?_⟩, .ref ?_⟩
                · rcases List.mem_append.mp hb with hb | hb
                  · exact .inl hb
                  · have : b = a := by simpa using hb
                    subst this
                    exact x.new b (List.mem_of_getElem? e)
                · rw [List.nodup_append]
                  refine ⟨R0.nd, by simp, fun b hb c hc => ?_⟩
                  have : c = a := by simpa using hc
                  subst this
                  rintro rfl
                  exact ha hb
                · by_cases hj : j < h0.length
                  · rw [List.getElem?_append_left hj] at q
                    obtain ⟨b, hb, rb⟩ := R1.at_ j o' q
                    exact ⟨b, by rw [List.getElem?_append_left (by rw [R0.len]; exact hj)]; exact hb, rb.up (more _)⟩
                  · have hl : j = h0.length := by
                      have := (List.getElem?_eq_some_iff.mp q).1
                      simp at this
                      omega
                    subst hl
                    rw [List.getElem?_concat_length] at q
                    cases q
                    exact ⟨a, by rw [← R0.len, List.getElem?_concat_length], ro.any hf⟩
                · rw [← R0.len, List.getElem?_concat_length]
            · exact triv
          · exact triv
      · split
        · rename_i hf
          exact ⟨m0, _, _, rfl, x1, R1, r.any hf⟩
        · exact triv
    · exact triv
end
/-! ### the handled exception matters to itself alone -/
mutual
def D.noExc : D → Bool
  | .exc _ _ _ => false
  | .tup ds => D.noExcs ds
  | .sl ds => D.noExcs ds
  | _ => true
def D.noExcs : List D → Bool
  | [] => true
  | d :: ds => d.noExc && D.noExcs ds
end
def noExcKV (kvs : List (D × D)) : Bool := kvs.all fun p => p.2.noExc
def O.noExc : O → Bool
  | .lst ds => D.noExcs ds
  | .dic _ kvs => noExcKV kvs
  | .fdc _ kvs => noExcKV kvs
  | .set _ => true
  | .ins _ fs => fs.all fun p => p.2.noExc
section
variable {k : PySem.W.Frag} {w : World} {e1 e2 : Option (Addr × Obj)} {m m1 : List Addr} {H H1 : Hp}
theorem SqI.cv {K1 K2 : KW} {a : Addr} {xs : List V} (hK : K1.K = K2.K) (h : SqI K1 H a xs) : SqI K2 H a xs := by
  unfold SqI at h ⊢
  rw [← hK]
  exact h
mutual
theorem RD.noK {K : KW} (hK : K.hx = none) : ∀ {d : D} {v : V}, RD K m H d v → d.noExc = true
  | _, _, .non => rfl
  | _, _, .bl b => rfl
  | _, _, .int i => rfl
  | _, _, .str b => rfl
  | _, _, .tup l h r => RDs.noK hK r
  | _, _, .sl l h r => RDs.noK hK r
  | _, _, .ref h => rfl
  | _, _, .exc h _ _ _ _ => by rw [hK] at h; cases h
theorem RDs.noK {K : KW} (hK : K.hx = none) : ∀ {ds : List D} {vs : List V}, RDs K m H ds vs → D.noExcs ds = true
  | _, _, .nil => rfl
  | _, _, .cons r rs => by simp only [D.noExcs, RD.noK hK r, RDs.noK hK rs, Bool.and_self]
end
mutual
theorem RD.cvK {K1 K2 : KW} (hK : K1.K = K2.K) : ∀ {d : D} {v : V}, d.noExc = true → RD K1 m H d v → RD K2 m H d v
  | _, _, _, .non => .non
  | _, _, _, .bl b => .bl b
  | _, _, _, .int i => .int i
  | _, _, _, .str b => .str b
  | _, _, n, .tup l h r => .tup l h (RDs.cvK hK n r)
  | _, _, n, .sl l h r => .sl l (h.cv hK) (RDs.cvK hK n r)
  | _, _, _, .ref h => .ref h
  | _, _, n, .exc _ _ _ _ _ => by simp [D.noExc] at n
theorem RDs.cvK {K1 K2 : KW} (hK : K1.K = K2.K) : ∀ {ds : List D} {vs : List V}, D.noExcs ds = true → RDs K1 m H ds vs → RDs K2 m H ds vs
  | _, _, _, .nil => .nil
  | _, _, n, .cons r rs => by
    simp only [D.noExcs, Bool.and_eq_true] at n
    exact .cons (RD.cvK hK n.1 r) (RDs.cvK hK n.2 rs)
end
theorem RD.no {d : D} {v : V} (r : RD ⟨k, w, none⟩ m H d v) : d.noExc = true := RD.noK rfl r
theorem RDs.no {d : List D} {v : List V} (r : RDs ⟨k, w, none⟩ m H d v) : D.noExcs d = true := RDs.noK rfl r
theorem RD.cv {d : D} {v : V} (n : d.noExc = true) (r : RD ⟨k, w, e1⟩ m H d v) : RD ⟨k, w, e2⟩ m H d v := RD.cvK (K1 := ⟨k, w, e1⟩) (K2 := ⟨k, w, e2⟩) rfl n r
theorem RDs.cv {d : List D} {v : List V} (n : D.noExcs d = true) (r : RDs ⟨k, w, e1⟩ m H d v) : RDs ⟨k, w, e2⟩ m H d v := RDs.cvK (K1 := ⟨k, w, e1⟩) (K2 := ⟨k, w, e2⟩) rfl n r
theorem RKV.no {κ : Type} {kd : D → Option κ} : ∀ {kvs : List (D × D)} {ws : List (κ × V)}, RKV ⟨k, w, none⟩ m H kd kvs ws → noExcKV kvs = true
  | _, _, .nil => rfl
  | _, _, .cons e r rs => by
    have := RKV.no rs
    unfold noExcKV at this ⊢
    rw [List.all_cons, this, r.no]
    rfl
theorem RKV.cv {κ : Type} {kd : D → Option κ} : ∀ {kvs : List (D × D)} {ws : List (κ × V)}, noExcKV kvs = true → RKV ⟨k, w, e1⟩ m H kd kvs ws → RKV ⟨k, w, e2⟩ m H kd kvs ws
  | _, _, _, .nil => .nil
  | _, _, n, .cons e r rs => by
    unfold noExcKV at n
    rw [List.all_cons, Bool.and_eq_true] at n
    exact .cons e (r.cv n.1) (RKV.cv n.2 rs)
theorem RFs.no : ∀ {fs : List (Str × D)} {ws : List (Str × V)}, RFs ⟨k, w, none⟩ m H fs ws → (fs.all fun p => p.2.noExc) = true
  | _, _, .nil => rfl
  | _, _, .cons r rs => by rw [List.all_cons, RFs.no rs, r.no]; rfl
theorem RFs.cv : ∀ {fs : List (Str × D)} {ws : List (Str × V)}, (fs.all fun p => p.2.noExc) = true → RFs ⟨k, w, e1⟩ m H fs ws → RFs ⟨k, w, e2⟩ m H fs ws
  | _, _, _, .nil => .nil
  | _, _, n, .cons r rs => by
    rw [List.all_cons, Bool.and_eq_true] at n
    exact .cons (r.cv n.1) (RFs.cv n.2 rs)
theorem RO.no {a : Addr} {o : O} (r : RO ⟨k, w, none⟩ m H a o) : o.noExc = true := by
  cases o with
  | lst ds => obtain ⟨l, vs, q, r⟩ := r; exact r.no
  | dic b kvs => cases b <;> (obtain ⟨ws, q, r⟩ := r; exact r.no)
  | set ks => rfl
  | ins c fs => obtain ⟨dx, ws, q, r⟩ := r; exact r.no
  | fdc tk kvs => cases tk <;> (obtain ⟨f, ws, q, r⟩ := r; exact r.no)
theorem RO.cv {a : Addr} {o : O} (n : o.noExc = true) (r : RO ⟨k, w, e1⟩ m H a o) : RO ⟨k, w, e2⟩ m H a o := by
  cases o with
  | lst ds => obtain ⟨l, vs, q, r⟩ := r; exact ⟨l, vs, q, r.cv n⟩
  | dic b kvs => cases b <;> (obtain ⟨ws, q, r⟩ := r; exact ⟨ws, q, r.cv n⟩)
  | set ks => exact r
  | ins c fs => obtain ⟨dx, ws, q, r⟩ := r; exact ⟨dx, ws, q, r.cv n⟩
  | fdc tk kvs => cases tk <;> (obtain ⟨f, ws, q, r⟩ := r; exact ⟨f, ws, q, r.cv n⟩)
theorem RH.no {h : Hst} (R : RH ⟨k, w, none⟩ m H h) : h.all O.noExc = true := List.all_eq_true.mpr fun o ho => by
  obtain ⟨n, e⟩ := List.getElem?_of_mem ho
  obtain ⟨a, _, r⟩ := R.at_ n o e
  exact r.no
theorem RH.cv {h : Hst} (n : h.all O.noExc = true) (R : RH ⟨k, w, e1⟩ m H h) : RH ⟨k, w, e2⟩ m H h := ⟨R.len, R.nd, fun j o e => let ⟨a, ha, r⟩ := R.at_ j o e; ⟨a, ha, r.cv (List.all_eq_true.mp n o (List.mem_of_getElem? e))⟩⟩
theorem Ext.cv (x : Ext ⟨k, w, e1⟩ m H m1 H1) : Ext ⟨k, w, e2⟩ m H m1 H1 := ⟨x.pre, x.tup, x.sl, x.xd, x.frz, x.frm, x.new⟩
end
end Mi

namespace Mi
open PySem PySem.Spec PyProof.Rows L2

/-! ### what is wanted behind a run -/
/-- an exception of the small language in the layer -/
def RX (K : KW) (m : List Addr) (H : Hp) (x : Ex) (cls : Value) (d : Option Addr) : Prop :=
  cls = .ref (He.ga K x.cls) ∧ ((x.fs = [] ∧ d = none) ∨ ∃ dd ws, d = some dd ∧ H dd = some (.xd ws) ∧ RFs K m H x.fs ws)
def Po {α β : Type} (K : KW) (W : WX) (rel : List Addr → Hp → α → β → Prop) (m : List Addr) (H : Hp) (σ : L2.St) (r : Res α) (Q : β → Hp → Prop) : Prop := match r with
  | .ok a h => ∀ m' H' b, Ext K m H m' H' → RH K m' H' h → rel m' H' a b → Q b H'
  | .err x h => ∀ m' H' cls d, Ext K m H m' H' → RH K m' H' h → RX K m' H' x cls d → W cls d σ H'
  | .bad => False
section
variable {α β γ δ : Type} {K : KW} {W : WX} {rel : List Addr → Hp → α → β → Prop} {rel' : List Addr → Hp → γ → δ → Prop} {m m1 : List Addr} {H H1 : Hp} {σ : L2.St} {r : Res α} {Q Q' : β → Hp → Prop}
theorem Po.imp (p : Po K W rel m H σ r Q) (h : ∀ b H', Q b H' → Q' b H') : Po K W rel m H σ r Q' := by
  cases r with
  | ok a h1 => exact fun m' H' b x R q => h _ _ (p m' H' b x R q)
  | err x h1 => exact p
  | bad => exact p
theorem Po.mono (x : Ext K m H m1 H1) (p : Po K W rel m H σ r Q) : Po K W rel m1 H1 σ r Q := by
  cases r with
  | ok a h1 => exact fun m' H' b y R q => p m' H' b (x.trans y) R q
  | err x1 h1 => exact fun m' H' c d y R q => p m' H' c d (x.trans y) R q
  | bad => exact p
theorem Po.bind {Q : δ → Hp → Prop} {g : α → Hst → Res γ} (p : Po K W rel' m H σ (r.bind g) Q) :
    Po K W rel m H σ r (fun b H1 => ∃ m1 a h1, Ext K m H m1 H1 ∧ RH K m1 H1 h1 ∧ rel m1 H1 a b ∧ Po K W rel' m1 H1 σ (g a h1) Q) := by
  cases r with
  | ok a h1 => exact fun m' H' b x R q => ⟨m', a, h1, x, R, q, Po.mono x p⟩
  | err x h1 => exact p
  | bad => exact p
end
/-- the slots -/
def REn (K : KW) (m : List Addr) (H : Hp) (en : En) (σ : L2.St) : Prop := en.length = σ.length ∧ ∀ (i : Nat) (d : D), en[i]? = some (some d) → ∃ v, σ[i]? = some (some v) ∧ RD K m H d v
section
variable {K : KW} {m m1 : List Addr} {H H1 : Hp} {σ : L2.St} {en : En}
theorem REn.mono (x : Ext K m H m1 H1) (E : REn K m H en σ) : REn K m1 H1 en σ := ⟨E.1, fun i d e => let ⟨v, h, r⟩ := E.2 i d e; ⟨v, h, r.mono x⟩⟩
theorem REn.set (E : REn K m H en σ) {d : D} {v : V} (r : RD K m H d v) (i : Nat) : REn K m H (en.set i (some d)) (σ.set i (some v)) := by
  refine ⟨by simp [E.1], fun j e q => ?_⟩
  by_cases hj : i = j
  · subst hj
    have hl : i < en.length := by
      have := (List.getElem?_eq_some_iff.mp q).1
      simpa using this
    rw [List.getElem?_set_self hl] at q
    cases q
    exact ⟨v, by rw [List.getElem?_set_self (by rw [← E.1]; exact hl)], r⟩
  · rw [List.getElem?_set_ne hj] at q
    obtain ⟨w, h1, h2⟩ := E.2 j e q
    exact ⟨w, by rw [List.getElem?_set_ne hj]; exact h1, h2⟩
def wipeE (en : En) : List Nat → En
  | [] => en
  | v :: vs => (wipeE en vs).set v none
theorem REn.wipe (E : REn K m H en σ) : ∀ vs : List Nat, REn K m H (wipeE en vs) (wipe σ vs)
  | [] => E
  | v :: vs => by
    obtain ⟨l, g⟩ := REn.wipe E vs
    refine ⟨by simp only [wipeE, L2.wipe, List.length_set]; exact l, fun i d e => ?_⟩
    simp only [wipeE, L2.wipe] at e ⊢
    by_cases hi : v = i
    · subst hi
      have hl : v < (wipeE en vs).length := by
        have := (List.getElem?_eq_some_iff.mp e).1
        simpa using this
      rw [List.getElem?_set_self hl] at e
      cases e
    · rw [List.getElem?_set_ne hi] at e ⊢
      exact g i d e
end

/-! ### the judgements -/
def RdE (K : KW) (W : WX) (f : Ev) : TE := fun σ H Q => ∃ m en h, RH K m H h ∧ REn K m H en σ ∧ Po K W (RD K) m H σ (f en h) Q
def RdA (K : KW) (W : WX) (f : Evs) : TA := fun σ H Q => ∃ m en h, RH K m H h ∧ REn K m H en σ ∧ Po K W (RDs K) m H σ (f en h) Q
def RdT (K : KW) (W : WX) (f : EvT) : TT := fun σ H Q => ∃ m en h, RH K m H h ∧ REn K m H en σ ∧ Po K W (fun _ _ a b => a = b) m H σ (f en h) Q
/-- what a statement's run wants -/
def PoS (K : KW) (W : WX) (m : List Addr) (H : Hp) (r : SR) (D : Ends) : Prop := match r with
  | .nx en h => ∀ m' H' σ', Ext K m H m' H' → RH K m' H' h → REn K m' H' en σ' → D.nx σ' H'
  | .rt d h => ∀ m' H' v, Ext K m H m' H' → RH K m' H' h → RD K m' H' d v → D.rt v H'
  | .bk en h => ∀ m' H' σ', Ext K m H m' H' → RH K m' H' h → REn K m' H' en σ' → D.bk σ' H'
  | .ct en h => ∀ m' H' σ', Ext K m H m' H' → RH K m' H' h → REn K m' H' en σ' → D.ct σ' H'
  | .err x en h => ∀ m' H' σ' cls d, Ext K m H m' H' → RH K m' H' h → REn K m' H' en σ' → RX K m' H' x cls d → W cls d σ' H'
  | .bad => False
theorem PoS.mono {K : KW} {W : WX} {m m1 : List Addr} {H H1 : Hp} {r : SR} {D : Ends} (x : Ext K m H m1 H1) (p : PoS K W m H r D) : PoS K W m1 H1 r D := by
  cases r with
  | nx en h => exact fun m' H' s y R E => p m' H' s (x.trans y) R E
  | rt d h => exact fun m' H' s y R E => p m' H' s (x.trans y) R E
  | bk en h => exact fun m' H' s y R E => p m' H' s (x.trans y) R E
  | ct en h => exact fun m' H' s y R E => p m' H' s (x.trans y) R E
  | err x1 en h => exact fun m' H' s c d y R E => p m' H' s c d (x.trans y) R E
  | bad => exact p
def RdS (K : KW) (W : WX) (f : Sm) : TS := fun D σ H => ∃ m en h, RH K m H h ∧ REn K m H en σ ∧ PoS K W m H (f en h) D
abbrev SE (X : Cx) (W : WX) (e : Expr) (f : Ev) : Prop := PE X e (RdE X.Kw W f)
abbrev SA (X : Cx) (W : WX) (es : List Expr) (f : Evs) : Prop := PA X es (RdA X.Kw W f)
abbrev ST (X : Cx) (W : WX) (e : Expr) (f : EvT) : Prop := PT X e (RdT X.Kw W f)
abbrev SW (X : Cx) (W : WX) (e : Expr) (f : EvT) : Prop := PW X e (RdT X.Kw W f)
abbrev SS (X : Cx) (W : WX) (st : Stmt) (f : Sm) : Prop := PS X st (RdS X.Kw W f)
abbrev SSs (X : Cx) (W : WX) (sts : List Stmt) (f : Sm) : Prop := PSs X sts (RdS X.Kw W f)
section
variable {X : Cx} {W : WX} {e a b c : Expr} {es : List Expr} {st : Stmt} {sts : List Stmt} {pos : Pos}
theorem viaE {t t' : TE} (h : PE X e t) (q : ∀ σ H Q, t' σ H Q → t σ H Q) : PE X e t' := ⟨fun p s σ H Q I w => h.run p s σ H Q I (q _ _ _ w)⟩
theorem viaA {t t' : TA} (h : PA X es t) (q : ∀ σ H Q, t' σ H Q → t σ H Q) : PA X es t' := ⟨fun ps p s σ H Q I w => h.run ps p s σ H Q I (q _ _ _ w)⟩
theorem viaT {t t' : TT} (h : PT X e t) (q : ∀ σ H Q, t' σ H Q → t σ H Q) : PT X e t' := ⟨fun p s σ H Q I w => h.run p s σ H Q I (q _ _ _ w)⟩
theorem viaW {t t' : TT} (h : PW X e t) (q : ∀ σ H Q, t' σ H Q → t σ H Q) : PW X e t' := ⟨fun wh p s σ H Q I w => h.run wh p s σ H Q I (q _ _ _ w)⟩
theorem viaS {t t' : TS} (h : PS X st t) (q : ∀ D σ H, t' D σ H → t D σ H) : PS X st t' := ⟨fun p s σ H D I w => h.run p s σ H D I (q _ _ _ w)⟩
theorem viaSs {t t' : TS} (h : PSs X sts t) (q : ∀ D σ H, t' D σ H → t D σ H) : PSs X sts t' := ⟨fun p s σ H D I w => h.run p s σ H D I (q _ _ _ w)⟩

/-! ### names, constants -/
def vVar (i : Nat) : Ev := fun en h => match en[i]? with
  | some (some d) => .ok d h
  | _ => .bad
def vC (d : D) : Ev := fun _ h => .ok d h
theorem po_ok {α β : Type} {K : KW} {rel : List Addr → Hp → α → β → Prop} {m : List Addr} {H : Hp} {σ : L2.St} {x : α} {y : β} {h : Hst} {Q : β → Hp → Prop} (p : Po K W rel m H σ (.ok x h) Q) (R : RH K m H h) (r : rel m H x y) : Q y H := p m H y .refl R r
theorem se_var (i : Nat) {x : Str} (hN : X.N[i]? = some x := by rfl) (hv : Vis X.env.scope x := by first | exact Or.inl rfl | exact Or.inr (Or.inl rfl) | exact Or.inr (Or.inr rfl)) (hd : (x == ("__debug__" : Str)) = false := by decide)
    (hcd : (x == ("__classdict__" : Str)) = false := by decide) : SE X W (.Name x pos) (vVar i) := by
  refine viaE (pe_var (i := i) hN hv hd hcd) fun σ H Q ⟨m, en, h, R, E, p⟩ => ?_
  unfold vVar at p
  split at p
  · rename_i d e
    obtain ⟨v, ev, r⟩ := E.2 i d e
    exact ⟨v, ev, po_ok p R r⟩
  · exact p.elim
theorem se_const {t : D} {v : V} (h : PE X e (tC v)) (r : ∀ K m H, RD K m H t v) : SE X W e (vC t) :=
  viaE h fun σ H Q ⟨m, en, hh, R, E, p⟩ => po_ok p R (r _ _ _)
theorem se_int {i : Int} {j : Nat} : SE X W (.Constant (.int i) j pos) (vC (.int i)) := se_const pe_int fun _ _ _ => .int i
theorem se_bl {i : Bool} {j : Nat} : SE X W (.Constant (.bool i) j pos) (vC (.bl i)) := se_const pe_bl fun _ _ _ => .bl i
theorem se_non {j : Nat} : SE X W (.Constant .none j pos) (vC .non) := se_const pe_non fun _ _ _ => .non
def okS (s : List Nat) : Bool := decide (s.length ≤ sizeLine) && s.all fun c => decide (c < 1114112)
theorem okS_ok {s : List Nat} (h : okS s = true) : StrB s := by
  simp only [okS, Bool.and_eq_true, decide_eq_true_eq, List.all_eq_true] at h
  exact ⟨h.1, h.2⟩
theorem se_str (s : List Nat) {x : Str} {j : Nat} (hx : x = ⟨s.toArray⟩ := by decide +kernel) (hs : okS s = true := by decide +kernel) : SE X W (.Constant (.str x) j pos) (vC (.str s)) := by
  subst hx
  exact se_const pe_str fun _ _ _ => .str (okS_ok hs)
theorem se_gint {x : Str} {i : Int} (hg : Gl X x) (hm : ∃ t, X.mg x = some (.int i t)) (hd : (x == ("__debug__" : Str)) = false := by decide) : SE X W (.Name x pos) (vC (.int i)) := by
  obtain ⟨t, hm⟩ := hm
  exact se_const (pe_glob hg hm (v := .int i) ⟨t, rfl⟩ hd) fun _ _ _ => .int i
theorem se_gstr (s : List Nat) {x y : Str} (hg : Gl X x) (hm : ∃ t, X.mg x = some (.str y t)) (hx : y = ⟨s.toArray⟩ := by decide +kernel) (hs : okS s = true := by decide +kernel) (hd : (x == ("__debug__" : Str)) = false := by decide) : SE X W (.Name x pos) (vC (.str s)) := by
  obtain ⟨t, hm⟩ := hm
  subst hx
  exact se_const (pe_glob hg hm (v := .str ⟨s.toArray⟩) ⟨t, rfl⟩ hd) fun _ _ _ => .str (okS_ok hs)

/-! ### operators by values -/
/-- the rule r of the layer is met where g answers -/
def Vop (K : KW) (r : R2) (g : D → D → Hst → Res D) : Prop := ∀ (W : WX) (m : List Addr) (H : Hp) (h : Hst) (x y : D) (v u : V) (σ : L2.St) (Q : VK), RH K m H h → RD K m H x v → RD K m H y u → Po K W (RD K) m H σ (g x y h) Q → r v u H Q
def vB (g : D → D → Hst → Res D) (fa fb : Ev) : Ev := fun en h => (fa en h).bind fun x h1 => (fb en h1).bind fun y h2 => g x y h2
theorem rd_bin {K : KW} {r : R2} {g : D → D → Hst → Res D} {fa fb : Ev} (hg : Vop K r g) : ∀ σ H Q, RdE K W (vB g fa fb) σ H Q → tOp r (RdE K W fa) (RdE K W fb) σ H Q := by
  rintro σ H Q ⟨m, en, h, R, E, p⟩
  refine ⟨m, en, h, R, E, Po.imp (Po.bind (rel := RD K) p) fun x H1 ⟨m1, a, h1, x1, R1, ra, p1⟩ => ?_⟩
  refine ⟨m1, en, h1, R1, E.mono x1, Po.imp (Po.bind (rel := RD K) p1) fun y H2 ⟨m2, b, h2, x2, R2, rb, p2⟩ => ?_⟩
  exact hg W m2 H2 h2 a b x y σ Q R2 (ra.mono x2) rb p2
theorem se_bin {op : Operator} {r : R2} {g : D → D → Hst → Res D} {fa fb : Ev} (ho : OpR X (binaryOp op) r) (hg : Vop X.Kw r g) (ha : SE X W a fa) (hb : SE X W b fb) : SE X W (.BinOp a op b pos) (vB g fa fb) :=
  viaE (pe_op ho ha hb) (rd_bin hg)
theorem se_cmpR {op : CmpOp} {r : R2} {g : D → D → Hst → Res D} {fa fb : Ev} (ho : OpR X (compareOp op) r) (hg : Vop X.Kw r g) (ha : SE X W a fa) (hb : SE X W b fb) (hm : behindInMarks op b = false) : SE X W (.Compare a [op] [b] pos) (vB g fa fb) :=
  viaE (pe_cmpR ho ha hb hm) (rd_bin hg)
/-- a value's answer that is a truth value -/
def asB (r : Res D) : Res Bool := r.bind fun d h => match d with
  | .bl b => .ok b h
  | _ => .bad
def tV (f : Ev) : EvT := fun en h => asB (f en h)
theorem rd_tB {K : KW} {f : Ev} : ∀ σ H Q, RdT K W (tV f) σ H Q → tTest (RdE K W f) σ H Q := by
  rintro σ H Q ⟨m, en, h, R, E, p⟩
  refine ⟨m, en, h, R, E, Po.imp (Po.bind (rel := RD K) p) fun x H1 ⟨m1, a, h1, x1, R1, ra, p1⟩ => ?_⟩
  cases ra with
  | bl b => exact ⟨b, rfl, po_ok (rel := fun _ _ a b => a = b) p1 R1 rfl⟩
  | _ => exact p1.elim
theorem st_cmpR {op : CmpOp} {r : R2} {g : D → D → Hst → Res D} {fa fb : Ev} (ho : OpR X (compareOp op) r) (hg : Vop X.Kw r g) (ha : SE X W a fa) (hb : SE X W b fb) (hm : behindInMarks op b = false) : ST X W (.Compare a [op] [b] pos) (tV (vB g fa fb)) :=
  viaT (pt_cmpR ho ha hb hm) fun σ H Q p => by
    obtain ⟨m, en, h, R, E, p⟩ := rd_tB σ H Q p
    exact rd_bin hg σ H _ ⟨m, en, h, R, E, p⟩
/-- a op1 b op2 c -/
def vCh (g g' : D → D → Hst → Res D) (fa fb fc : Ev) : Ev := fun en h => (fa en h).bind fun x h1 => (fb en h1).bind fun y h2 => (asB (g x y h2)).bind fun k h3 => match k with
  | true => (fc en h3).bind fun z h4 => g' y z h4
  | false => .ok (.bl false) h3
theorem rd_chain {K : KW} {r r' : R2} {g g' : D → D → Hst → Res D} {fa fb fc : Ev} (hg : Vop K r g) (hg' : Vop K r' g') : ∀ σ H Q, RdE K W (vCh g g' fa fb fc) σ H Q → tChain r r' (RdE K W fa) (RdE K W fb) (RdE K W fc) σ H Q := by
  rintro σ H Q ⟨m, en, h, R, E, p⟩
  refine ⟨m, en, h, R, E, Po.imp (Po.bind (rel := RD K) p) fun x H1 ⟨m1, a, h1, x1, R1, ra, p1⟩ => ?_⟩
  refine ⟨m1, en, h1, R1, E.mono x1, Po.imp (Po.bind (rel := RD K) p1) fun y H2 ⟨m2, b, h2, x2, R2, rb, p2⟩ => ?_⟩
  refine hg W m2 H2 h2 a b x y σ _ R2 (ra.mono x2) rb ?_
  have p3 : Po K W (RD K) m2 H2 σ ((g a b h2).bind fun d h3 => (match d with | .bl k => Res.ok k h3 | _ => Res.bad).bind fun k h4 => match k with
    | true => (fc en h4).bind fun z h5 => g' b z h5
    | false => .ok (.bl false) h4) Q := by
    have e : ((g a b h2).bind fun d h3 => (match d with | .bl k => Res.ok k h3 | _ => Res.bad).bind fun k h4 => match k with
      | true => (fc en h4).bind fun z h5 => g' b z h5
      | false => .ok (.bl false) h4) = (asB (g a b h2)).bind fun k h3 => match k with
      | true => (fc en h3).bind fun z h4 => g' b z h4
      | false => .ok (.bl false) h3 := by
      unfold asB
      cases g a b h2 <;> rfl
    rw [e]
    exact p2
  refine Po.imp (Po.bind (rel := RD K) p3) fun z H3 ⟨m3, d, h3, x3, R3, rd, p4⟩ => ?_
  cases rd with
  | bl k =>
    refine ⟨k, rfl, ?_⟩
    cases k with
    | true =>
      rw [if_pos rfl]
      exact ⟨m3, en, h3, R3, E.mono (x1.trans (x2.trans x3)), Po.imp (Po.bind (rel := RD K) p4) fun w H4 ⟨m4, c, h4, x4, R4, rc, p5⟩ => hg' W m4 H4 h4 b c y w σ Q R4 (rb.mono (x3.trans x4)) rc p5⟩
    | false =>
      rw [if_neg Bool.false_ne_true]
      exact po_ok (rel := RD K) p4 R3 (.bl false)
  | _ => exact p4.elim
theorem se_chain {op op' : CmpOp} {r r' : R2} {g g' : D → D → Hst → Res D} {fa fb fc : Ev} (ho : OpR X (compareOp op) r) (hg : Vop X.Kw r g) (ho' : OpR X (compareOp op') r') (hg' : Vop X.Kw r' g') (ha : SE X W a fa) (hb : SE X W b fb) (hc : SE X W c fc)
    (hm : lastMarks [op, op'] [b, c] = false := by with_unfolding_all rfl) : SE X W (.Compare a [op, op'] [b, c] pos) (vCh g g' fa fb fc) := viaE (pe_chain ho ho' ha hb hc hm) (rd_chain hg hg')
theorem st_chain {op op' : CmpOp} {r r' : R2} {g g' : D → D → Hst → Res D} {fa fb fc : Ev} (ho : OpR X (compareOp op) r) (hg : Vop X.Kw r g) (ho' : OpR X (compareOp op') r') (hg' : Vop X.Kw r' g') (ha : SE X W a fa) (hb : SE X W b fb) (hc : SE X W c fc)
    (hm : lastMarks [op, op'] [b, c] = false := by with_unfolding_all rfl) : ST X W (.Compare a [op, op'] [b, c] pos) (tV (vCh g g' fa fb fc)) :=
  viaT (pt_chain ho ho' ha hb hc hm) fun σ H Q p => by
    obtain ⟨m, en, h, R, E, p⟩ := rd_tB σ H Q p
    exact rd_chain hg hg' σ H _ ⟨m, en, h, R, E, p⟩

/-! ### truth, and, or, not -/
def truD (d : D) (h : Hst) : Res Bool := match d with
  | .non => .ok false h
  | .bl b => .ok b h
  | .int i => .ok (decide (i ≠ 0)) h
  | .str s => .ok (!s.isEmpty) h
  | .tup xs => .ok (!xs.isEmpty) h
  | .sl xs => .ok (!xs.isEmpty) h
  | .ref n => match h[n]? with
    | some (.lst xs) => .ok (!xs.isEmpty) h
    | some (.dic false kvs) => .ok (!kvs.isEmpty) h
    | _ => .bad
  | .exc _ _ _ => .bad
theorem isE_len {α β : Type} {xs : List α} {ys : List β} (h : xs.length = ys.length) : (!xs.isEmpty) = !ys.isEmpty := by
  cases xs <;> cases ys <;> first | rfl | simp at h
theorem RKV.length {K : KW} {m : List Addr} {H : Hp} {κ : Type} {kd : D → Option κ} : ∀ {kvs : List (D × D)} {ws : List (κ × V)}, RKV K m H kd kvs ws → kvs.length = ws.length
  | _, _, .nil => rfl
  | _, _, .cons _ _ rs => congrArg Nat.succ (RKV.length rs)
theorem truD_ok {K : KW} {m : List Addr} {H : Hp} {h h' : Hst} {d : D} {v : V} {k : Bool} (R : RH K m H h) (r : RD K m H d v) (e : truD d h = .ok k h') : h' = h ∧ TruV K v H k := by
  cases r with
  | non => cases e; exact ⟨rfl, rfl⟩
  | bl b => cases e; exact ⟨rfl, rfl⟩
  | int i =>
    cases e
    refine ⟨rfl, ?_⟩
    show decide (i ≠ 0) = (i != 0)
    by_cases z : i = 0 <;> simp [z]
  | @str s b =>
    cases e
    have hl : (Str.mk s.toArray).length = s.length := by simp [Str.length]
    refine ⟨rfl, by rw [hl]; exact b.len, ?_⟩
    show (!s.isEmpty) = (((Str.mk s.toArray).length : Int) != 0)
    rw [hl]
    cases s with
    | nil => rfl
    | cons c s => simp; omega
  | exc => cases e
  | tup _ q rs => cases e; exact ⟨rfl, .inr (.inl ⟨_, .of q, isE_len rs.length⟩)⟩
  | sl _ q rs => cases e; exact ⟨rfl, .inl ⟨_, q.seq, isE_len rs.length⟩⟩
  | @ref n a ha =>
    unfold truD at e
    dsimp only at e
    split at e
    · rename_i xs he
      obtain ⟨_, vs, q, rs⟩ := R.look ha he
      cases e
      exact ⟨rfl, .inl ⟨_, .of q, isE_len rs.length⟩⟩
    · rename_i kvs he
      obtain ⟨ws, q, rs⟩ := R.look ha he
      cases e
      exact ⟨rfl, .inr (.inr ⟨_, q, isE_len rs.length⟩)⟩
    · cases e
def tTru (f : Ev) : EvT := fun en h => (f en h).bind fun d h1 => truD d h1
theorem po_tru {K : KW} {γ δ : Type} {rel : List Addr → Hp → γ → δ → Prop} {m : List Addr} {H : Hp} {h : Hst} {d : D} {v : V} {σ : L2.St} {g : Bool → Hst → Res γ} {Q : δ → Hp → Prop} (R : RH K m H h) (r : RD K m H d v) (p : Po K W rel m H σ ((truD d h).bind g) Q) :
    ∃ k, TruV K v H k ∧ Po K W rel m H σ (g k h) Q := by
  cases e : truD d h with
  | ok k h' =>
    obtain ⟨e1, t⟩ := truD_ok R r e
    subst e1
    rw [e] at p
    exact ⟨k, t, p⟩
  | err x h' =>
    have : ∀ k h', truD d h ≠ .err k h' := by
      intro k h' q
      unfold truD at q
      split at q <;> first | (cases q; done) | (split at q <;> cases q)
    exact (this _ _ e).elim
  | bad => rw [e] at p; exact p.elim
theorem res_bind_ok {α : Type} (r : Res α) : r.bind (fun a h => .ok a h) = r := by cases r <;> rfl
theorem st_truth {fa : Ev} (ha : SE X W a fa) (he : ∀ whole, isTrue a X.env whole = (do let v ← whole; standAt a.pos; holding [v] (truthy v)) := by intro _; rfl) : ST X W a (tTru fa) :=
  viaT (pt_truth ha he) fun σ H Q ⟨m, en, h, R, E, p⟩ => ⟨m, en, h, R, E, Po.imp (Po.bind (rel := RD X.Kw) p) fun x H1 ⟨m1, d, h1, x1, R1, ra, p1⟩ => by
    rw [← res_bind_ok (truD d h1)] at p1
    obtain ⟨k, t, p2⟩ := po_tru R1 ra p1
    exact ⟨k, t, po_ok (rel := fun _ _ a b => a = b) p2 R1 rfl⟩⟩
/-- an expression that gives a truth value -/
theorem st_val {fa : Ev} (ha : SE X W a fa) (he : ∀ whole, isTrue a X.env whole = (do let v ← whole; standAt a.pos; holding [v] (truthy v)) := by intro _; rfl) : ST X W a (tV fa) :=
  viaT (pt_val ha he) fun σ H Q p => rd_tB σ H Q p
def tNotE (f : EvT) : EvT := fun en h => (f en h).bind fun b h1 => .ok (!b) h1
def tAndE (f g : EvT) : EvT := fun en h => (f en h).bind fun b h1 => match b with
  | true => g en h1
  | false => .ok false h1
def tOrE (f g : EvT) : EvT := fun en h => (f en h).bind fun b h1 => match b with
  | true => .ok true h1
  | false => g en h1
theorem st_not {f : EvT} (ha : ST X W a f) : ST X W (.UnaryOp .Not a pos) (tNotE f) :=
  viaT (pt_not ha) fun σ H Q ⟨m, en, h, R, E, p⟩ => ⟨m, en, h, R, E, Po.imp (Po.bind (rel := fun _ _ a b => a = b) p) fun x H1 ⟨m1, d, h1, x1, R1, ra, p1⟩ => by
    subst ra
    exact po_ok (rel := fun _ _ a b => a = b) p1 R1 rfl⟩
theorem sw_and1 {f : EvT} (ha : ST X W a f) : SW X W (.BoolOp .And [a] pos) f := pw_and1 ha
theorem sw_or1 {f : EvT} (ha : ST X W a f) : SW X W (.BoolOp .Or [a] pos) f := pw_or1 ha
theorem sw_and {f g : EvT} {rest : List Expr} (ha : ST X W a f) (hb : SW X W (.BoolOp .And (b :: rest) pos) g) : SW X W (.BoolOp .And (a :: b :: rest) pos) (tAndE f g) :=
  viaW (pw_and ha hb) fun σ H Q ⟨m, en, h, R, E, p⟩ => ⟨m, en, h, R, E, Po.imp (Po.bind (rel := fun _ _ a b => a = b) p) fun x H1 ⟨m1, d, h1, x1, R1, ra, p1⟩ => by
    subst ra
    cases d with
    | true => exact iteT ⟨m1, en, h1, R1, E.mono x1, p1⟩
    | false => exact iteF (po_ok (rel := fun _ _ a b => a = b) p1 R1 rfl)⟩
theorem sw_or {f g : EvT} {rest : List Expr} (ha : ST X W a f) (hb : SW X W (.BoolOp .Or (b :: rest) pos) g) : SW X W (.BoolOp .Or (a :: b :: rest) pos) (tOrE f g) :=
  viaW (pw_or ha hb) fun σ H Q ⟨m, en, h, R, E, p⟩ => ⟨m, en, h, R, E, Po.imp (Po.bind (rel := fun _ _ a b => a = b) p) fun x H1 ⟨m1, d, h1, x1, R1, ra, p1⟩ => by
    subst ra
    cases d with
    | true => exact iteT (po_ok (rel := fun _ _ a b => a = b) p1 R1 rfl)
    | false => exact iteF ⟨m1, en, h1, R1, E.mono x1, p1⟩⟩
theorem st_w {f : EvT} (h : SW X W a f) : ST X W a f := PW.pt h
/-- as values -/
def vAnd (f g : Ev) : Ev := fun en h => (f en h).bind fun d h1 => (truD d h1).bind fun b h2 => match b with
  | true => g en h2
  | false => .ok d h2
def vOr (f g : Ev) : Ev := fun en h => (f en h).bind fun d h1 => (truD d h1).bind fun b h2 => match b with
  | true => .ok d h2
  | false => g en h2
def vNot (f : Ev) : Ev := fun en h => (f en h).bind fun d h1 => (truD d h1).bind fun b h2 => .ok (.bl (!b)) h2
theorem se_one {op : BoolOp} {f : Ev} (ha : SE X W a f) : SE X W (.BoolOp op [a] pos) f := pe_one ha
theorem se_and {f g : Ev} {rest : List Expr} (ha : SE X W a f) (hb : SE X W (.BoolOp .And (b :: rest) pos) g) : SE X W (.BoolOp .And (a :: b :: rest) pos) (vAnd f g) :=
  viaE (pe_andT ha hb) fun σ H Q ⟨m, en, h, R, E, p⟩ => ⟨m, en, h, R, E, Po.imp (Po.bind (rel := RD X.Kw) p) fun x H1 ⟨m1, d, h1, x1, R1, ra, p1⟩ => by
    obtain ⟨k, t, p2⟩ := po_tru R1 ra p1
    refine ⟨k, t, ?_⟩
    cases k with
    | true => exact iteT ⟨m1, en, h1, R1, E.mono x1, p2⟩
    | false => exact iteF (po_ok (rel := RD X.Kw) p2 R1 ra)⟩
theorem se_or {f g : Ev} {rest : List Expr} (ha : SE X W a f) (hb : SE X W (.BoolOp .Or (b :: rest) pos) g) : SE X W (.BoolOp .Or (a :: b :: rest) pos) (vOr f g) :=
  viaE (pe_orT ha hb) fun σ H Q ⟨m, en, h, R, E, p⟩ => ⟨m, en, h, R, E, Po.imp (Po.bind (rel := RD X.Kw) p) fun x H1 ⟨m1, d, h1, x1, R1, ra, p1⟩ => by
    obtain ⟨k, t, p2⟩ := po_tru R1 ra p1
    refine ⟨k, t, ?_⟩
    cases k with
    | true => exact iteT (po_ok (rel := RD X.Kw) p2 R1 ra)
    | false => exact iteF ⟨m1, en, h1, R1, E.mono x1, p2⟩⟩
theorem se_not {f : Ev} (ha : SE X W a f) : SE X W (.UnaryOp .Not a pos) (vNot f) :=
  viaE (pe_notT ha) fun σ H Q ⟨m, en, h, R, E, p⟩ => ⟨m, en, h, R, E, Po.imp (Po.bind (rel := RD X.Kw) p) fun x H1 ⟨m1, d, h1, x1, R1, ra, p1⟩ => by
    obtain ⟨k, t, p2⟩ := po_tru R1 ra p1
    exact ⟨k, t, po_ok (rel := RD X.Kw) p2 R1 (.bl _)⟩⟩
def vIf (t : EvT) (f g : Ev) : Ev := fun en h => (t en h).bind fun b h1 => match b with
  | true => f en h1
  | false => g en h1
theorem se_if {t : EvT} {f g : Ev} (hc : ST X W c t) (ha : SE X W a f) (hb : SE X W b g) : SE X W (.IfExp c a b pos) (vIf t f g) :=
  viaE (pe_ifExp hc ha hb) fun σ H Q ⟨m, en, h, R, E, p⟩ => ⟨m, en, h, R, E, Po.imp (Po.bind (rel := fun _ _ a b => a = b) p) fun x H1 ⟨m1, d, h1, x1, R1, ra, p1⟩ => by
    subst ra
    cases d with
    | true => exact iteT ⟨m1, en, h1, R1, E.mono x1, p1⟩
    | false => exact iteF ⟨m1, en, h1, R1, E.mono x1, p1⟩⟩

/-! ### arguments, displays -/
def aNil : Evs := fun _ h => .ok [] h
def aCons (f : Ev) (g : Evs) : Evs := fun en h => (f en h).bind fun d h1 => (g en h1).bind fun ds h2 => .ok (d :: ds) h2
theorem sa_nil : SA X W [] aNil := viaA pa_nil fun σ H Q ⟨m, en, h, R, E, p⟩ => po_ok (rel := RDs X.Kw) p R .nil
theorem sa_cons {f : Ev} {g : Evs} (ha : SE X W e f) (hr : SA X W es g) (hs : starEach (e :: es) X.env = (false, eval e X.env) :: starEach es X.env := by rfl) : SA X W (e :: es) (aCons f g) :=
  viaA (pa_cons ha hr hs) fun σ H Q ⟨m, en, h, R, E, p⟩ => ⟨m, en, h, R, E, Po.imp (Po.bind (rel := RD X.Kw) p) fun x H1 ⟨m1, d, h1, x1, R1, ra, p1⟩ =>
    ⟨m1, en, h1, R1, E.mono x1, Po.imp (Po.bind (rel := RDs X.Kw) p1) fun xs H2 ⟨m2, ds, h2, x2, R2, rs, p2⟩ => po_ok (rel := RDs X.Kw) p2 R2 (.cons (ra.mono x2) rs)⟩⟩
def vTup (f : Evs) : Ev := fun en h => (f en h).bind fun ds h1 => if ds.length ≤ 16777216 then .ok (.tup ds) h1 else .bad
def vLst (f : Evs) : Ev := fun en h => (f en h).bind fun ds h1 => if ds.length ≤ 16777216 then .ok (.ref h1.length) (h1 ++ [.lst ds]) else .bad
theorem sl_eq : sizeLine = 16777216 := sizeLine_eq
section
variable {K : KW} {m : List Addr} {H : Hp} {h : Hst} {σ : L2.St} {Q : VK} {ds : List D} {vs : List V}
theorem new_tup (R : RH K m H h) (rs : RDs K m H ds vs) (hl : ds.length ≤ 16777216) (p : Po K W (RD K) m H σ (.ok (.tup ds) h) Q) : ∀ p, H p = none → Q (.ref p) (upd H p (.tup vs)) := fun a ha =>
  p m _ _ (Ext.fresh ha) (R.laid ha) (.tup (by rw [sl_eq]; exact hl) upd_same (rs.mono (Ext.fresh ha).e))
theorem new_lst (R : RH K m H h) (rs : RDs K m H ds vs) (hl : ds.length ≤ 16777216) (p : Po K W (RD K) m H σ (.ok (.ref h.length) (h ++ [.lst ds])) Q) : ∀ p, H p = none → Q (.ref p) (upd H p (.lst vs)) := fun a ha =>
  p (m ++ [a]) _ _ (Ext.push ha) (R.push ha ⟨by rw [sl_eq]; exact hl, vs, upd_same, rs.mono (Ext.push ha).e⟩) (.ref (by rw [← R.len, List.getElem?_concat_length]))
end
theorem se_tup {k : Nat} {f : Evs} (ha : SA X W es f) : SE X W (.Tuple es k pos) (vTup f) :=
  viaE (pe_tup ha) fun σ H Q ⟨m, en, h, R, E, p⟩ => ⟨m, en, h, R, E, Po.imp (Po.bind (rel := RDs X.Kw) p) fun xs H1 ⟨m1, ds, h1, x1, R1, rs, p1⟩ => by
    by_cases hl : ds.length ≤ 16777216
    · rw [if_pos hl] at p1
      exact ⟨by rw [← rs.length, sl_eq]; exact hl, new_tup R1 rs hl p1⟩
    · rw [if_neg hl] at p1
      exact p1.elim⟩
theorem se_lst {f : Evs} (ha : SA X W es f) : SE X W (.List es pos) (vLst f) :=
  viaE (pe_lst ha) fun σ H Q ⟨m, en, h, R, E, p⟩ => ⟨m, en, h, R, E, Po.imp (Po.bind (rel := RDs X.Kw) p) fun xs H1 ⟨m1, ds, h1, x1, R1, rs, p1⟩ => by
    by_cases hl : ds.length ≤ 16777216
    · rw [if_pos hl] at p1
      exact ⟨by rw [← rs.length, sl_eq]; exact hl, new_lst R1 rs hl p1⟩
    · rw [if_neg hl] at p1
      exact p1.elim⟩
end
end Mi

namespace Mi
open PySem PySem.Spec PyProof.Rows L2

section
variable {K : KW} {W : WX} {m : List Addr} {H : Hp} {h : Hst} {σ : L2.St} {Q : VK}
theorem p_int {i : Int} (R : RH K m H h) (p : Po K W (RD K) m H σ (.ok (.int i) h) Q) : Q (.int i) H := po_ok p R (.int i)
theorem p_bl {i : Bool} (R : RH K m H h) (p : Po K W (RD K) m H σ (.ok (.bl i) h) Q) : Q (.bl i) H := po_ok p R (.bl i)
theorem p_if {α β : Type} {rel : List Addr → Hp → α → β → Prop} {Q : β → Hp → Prop} {c : Prop} [Decidable c] {r : Res α} (p : Po K W rel m H σ (if c then r else .bad) Q) : c ∧ Po K W rel m H σ r Q := by
  by_cases hc : c
  · rw [if_pos hc] at p; exact ⟨hc, p⟩
  · rw [if_neg hc] at p; exact p.elim
end

/-! ### + -/
def addD (x y : D) (h : Hst) : Res D := match x, y with
  | .int i, .int j => .ok (.int (i + j)) h
  | .int i, .bl j => .ok (.int (i + b2i j)) h
  | .str s, .str t => if s.length + t.length ≤ 16777216 then .ok (.str (s ++ t)) h else .bad
  | .tup xs, .tup ys => if xs.length + ys.length ≤ 16777216 then .ok (.tup (xs ++ ys)) h else .bad
  | .ref a, .ref b => match h[a]?, h[b]? with
    | some (.lst xs), some (.lst ys) => if xs.length + ys.length ≤ 16777216 then .ok (.ref h.length) (h ++ [.lst (xs ++ ys)]) else .bad
    | _, _ => .bad
  | _, _ => .bad
def rAddM (K : KW) : R2 := fun x y H Q => (rI0 (fun i j => .int (i + j))) x y H Q ∨ (∃ i k, x = .int i ∧ y = .bl k ∧ Q (.int (i + b2i k)) H) ∨
  (∃ i j, x = .str i ∧ y = .str j ∧ i.length + j.length ≤ sizeLine ∧ Q (.str (i ++ j)) H) ∨ rCatA K x y H Q ∨ rCat x y H Q
theorem op_addM {X : Cx} : OpR X (binaryOp .Add) (rAddM X.Kw) := op_add.or (op_add_ib.or (op_add_str.or (op_catA.or op_cat)))
theorem str_app (s t : List Nat) : (⟨s.toArray⟩ : Str) ++ ⟨t.toArray⟩ = ⟨(s ++ t).toArray⟩ := by
  show (⟨s.toArray ++ t.toArray⟩ : Str) = _
  simp
theorem str_len (s : List Nat) : (Str.mk s.toArray).length = s.length := by simp [Str.length]
theorem StrB.app {s t : List Nat} (a : StrB s) (b : StrB t) (h : s.length + t.length ≤ 16777216) : StrB (s ++ t) :=
  ⟨by rw [List.length_append, sl_eq]; exact h, fun c hc => (List.mem_append.mp hc).elim (a.cp c) (b.cp c)⟩
theorem vop_add {K : KW} : Vop K (rAddM K) addD := by
  intro W m H h x y v u σ Q R rx ry p
  unfold addD at p
  split at p
  · cases rx; cases ry; exact .inl ⟨_, _, rfl, rfl, p_int R p⟩
  · cases rx; cases ry; exact .inr (.inl ⟨_, _, rfl, rfl, p_int R p⟩)
  · obtain ⟨hl, p⟩ := p_if p
    cases rx with
    | str bx =>
      cases ry with
      | str by' => exact .inr (.inr (.inl ⟨_, _, rfl, rfl, by rw [str_len, str_len, sl_eq]; exact hl, by rw [str_app]; exact po_ok p R (.str (bx.app by' hl))⟩))
  · obtain ⟨hl, p⟩ := p_if p
    rename_i xs ys
    cases rx with
    | tup l1 q1 r1 =>
      cases ry with
      | tup l2 q2 r2 =>
        have e1 := r1.length
        have e2 := r2.length
        refine .inr (.inr (.inr (.inl ⟨_, _, _, _, rfl, rfl, .of q1, .of q2, by rw [sl_eq]; omega, fun z => ?_, fun _ z => ?_, fun _ _ => new_tup R (r1.append r2) (by rw [List.length_append]; exact hl) p⟩)))
        · subst z
          cases r1
          exact po_ok p R (.tup l2 q2 r2)
        · subst z
          cases r2
          exact po_ok p R (.tup (by rw [List.append_nil]; exact l1) q1 (by rw [List.append_nil]; exact r1))
  · split at p
    · rename_i ea eb
      obtain ⟨hl, p⟩ := p_if p
      cases rx with
      | ref ha =>
        cases ry with
        | ref hb =>
          obtain ⟨_, vs, q1, r1⟩ := R.look ha ea
          obtain ⟨_, ws, q2, r2⟩ := R.look hb eb
          have e1 := r1.length
          have e2 := r2.length
          exact .inr (.inr (.inr (.inr ⟨_, _, _, _, rfl, rfl, q1, q2, by rw [sl_eq]; omega, new_lst R (r1.append r2) (by rw [List.length_append]; exact hl) p⟩)))
    · exact p.elim
  · exact p.elim
/-! ### ints -/
def intD (f : Int → Int → Int) (x y : D) (h : Hst) : Res D := match x, y with
  | .int i, .int j => .ok (.int (f i j)) h
  | _, _ => .bad
def intG (c : Int → Int → Bool) (f : Int → Int → Int) (x y : D) (h : Hst) : Res D := match x, y with
  | .int i, .int j => if c i j = true then .ok (.int (f i j)) h else .bad
  | _, _ => .bad
def cmpD (f : Int → Int → Bool) (x y : D) (h : Hst) : Res D := match x, y with
  | .int i, .int j => .ok (.bl (f i j)) h
  | _, _ => .bad
theorem vop_int {K : KW} {f : Int → Int → Int} : Vop K (rI0 fun i j => .int (f i j)) (intD f) := by
  intro W m H h x y v u σ Q R rx ry p
  unfold intD at p
  split at p
  · cases rx; cases ry; exact ⟨_, _, rfl, rfl, p_int R p⟩
  · exact p.elim
theorem vop_intG {K : KW} {c : Int → Int → Bool} {C : Int → Int → Prop} {f : Int → Int → Int} (hc : ∀ i j, c i j = true → C i j) : Vop K (rI C fun i j => .int (f i j)) (intG c f) := by
  intro W m H h x y v u σ Q R rx ry p
  unfold intG at p
  split at p
  · obtain ⟨e, p⟩ := p_if p
    cases rx; cases ry; exact ⟨_, _, rfl, rfl, hc _ _ e, p_int R p⟩
  · exact p.elim
theorem vop_cmp {K : KW} {f : Int → Int → Bool} : Vop K (rI0 fun i j => .bl (f i j)) (cmpD f) := by
  intro W m H h x y v u σ Q R rx ry p
  unfold cmpD at p
  split at p
  · cases rx; cases ry; exact ⟨_, _, rfl, rfl, p_bl R p⟩
  · exact p.elim
def subD := intD fun i j => i - j
def okMul (i j : Int) : Bool := decide (-18446744073709551616 < i ∧ i < 18446744073709551616) || decide (-18446744073709551616 < j ∧ j < 18446744073709551616)
def mulI := intG okMul fun i j => i * j
theorem okMul_ok (i j : Int) (h : okMul i j = true) : CMul i j := by
  simp only [okMul, Bool.or_eq_true, decide_eq_true_eq] at h
  exact h
def okDiv (i j : Int) : Bool := decide (0 < j ∧ j < 1073741824)
def divD := intG okDiv fun i j => i / j
theorem okDiv_ok (i j : Int) (h : okDiv i j = true) : CDiv i j := by
  simp only [okDiv, decide_eq_true_eq] at h
  exact h
def okMod (i j : Int) : Bool := decide (0 < j)
def modD := intG okMod fun i j => i % j
theorem okMod_ok (i j : Int) (h : okMod i j = true) : 0 < j := of_decide_eq_true h
def okPow (i j : Int) : Bool := decide (0 ≤ j ∧ j ≤ 1000000 ∧ i.natAbs < 18446744073709551616)
def powD := intG okPow fun i j => i ^ j.toNat
theorem okPow_ok (i j : Int) (h : okPow i j = true) : CPow i j := by
  simp only [okPow, decide_eq_true_eq] at h
  exact h
/-- * of ints, and of a list by an int -/
def mulD (x y : D) (h : Hst) : Res D := match x, y with
  | .int i, .int j => mulI (.int i) (.int j) h
  | .ref a, .int k => match h[a]? with
    | some (.lst xs) => if -9223372036854775808 ≤ k ∧ k < 9223372036854775808 ∧ xs.length * k.toNat ≤ 16777216 then .ok (.ref h.length) (h ++ [.lst (List.replicate k.toNat xs).flatten]) else .bad
    | _ => .bad
  | _, _ => .bad
theorem RDs.rep {K : KW} {m : List Addr} {H : Hp} {ds : List D} {vs : List V} (r : RDs K m H ds vs) : ∀ n : Nat, RDs K m H (List.replicate n ds).flatten (List.replicate n vs).flatten
  | 0 => .nil
  | n + 1 => by
    rw [List.replicate_succ, List.replicate_succ, List.flatten_cons, List.flatten_cons]
    exact r.append (RDs.rep r n)
theorem rep_len {α : Type} (xs : List α) : ∀ n : Nat, (List.replicate n xs).flatten.length = xs.length * n
  | 0 => by simp
  | n + 1 => by rw [List.replicate_succ, List.flatten_cons, List.length_append, rep_len xs n, Nat.mul_succ]; omega
def rMulM (K : KW) : R2 := fun x y H Q => (rI CMul fun i j => .int (i * j)) x y H Q ∨ rRep x y H Q
theorem op_mulM {X : Cx} : OpR X (binaryOp .Mult) (rMulM X.Kw) := op_mul.or op_rep
theorem vop_mul {K : KW} : Vop K (rMulM K) mulD := by
  intro W m H h x y v u σ Q R rx ry p
  unfold mulD at p
  split at p
  · exact .inl (vop_intG okMul_ok W m H h _ _ v u σ Q R rx ry p)
  · split at p
    · rename_i ea
      obtain ⟨⟨h1, h2, hl⟩, p⟩ := p_if p
      cases rx with
      | ref ha =>
        cases ry
        obtain ⟨_, vs, q1, r1⟩ := R.look ha ea
        have e1 := r1.length
        exact .inr ⟨_, _, _, rfl, rfl, q1, h1, h2, by rw [sl_eq, ← e1]; exact hl, new_lst R (r1.rep _) (by rw [rep_len]; exact hl) p⟩
    · exact p.elim
  · exact p.elim
def ltD := cmpD fun i j => decide (i < j)
def leD := cmpD fun i j => decide (i ≤ j)
def gtD := cmpD fun i j => decide (j < i)
def geD := cmpD fun i j => decide (j ≤ i)
def negD (x : D) (h : Hst) : Res D := match x with
  | .int i => .ok (.int (-i)) h
  | _ => .bad
def vU (g : D → Hst → Res D) (f : Ev) : Ev := fun en h => (f en h).bind fun x h1 => g x h1

/-! ### == -/
def flatD : D → Bool
  | .non => true | .bl _ => true | .int _ => true | .str _ => true
  | _ => false
def eqF : D → D → Bool
  | .non, .non => true
  | .bl a, .bl b => a == b
  | .bl a, .int b => (if a then 1 else 0) == b
  | .int a, .bl b => a == (if b then 1 else 0)
  | .int a, .int b => a == b
  | .str a, .str b => decide (a = b)
  | _, _ => false
mutual
/-- a value as data; n: so many lists within one another at most -/
def toPy (h : Hst) (n : Nat) (d : D) : Option PyData := match d with
  | .non => some .none
  | .bl b => some (.bool b)
  | .int i => some (.int i)
  | .str s => some (.str ⟨s.toArray⟩)
  | .exc _ _ _ => none
  | .tup ds => match toPys h n ds with | some ps => some (.tuple ps) | none => none
  | .sl ds => match toPys h n ds with | some ps => some (.list ps) | none => none
  | .ref a => match n with
    | 0 => none
    | n + 1 => match h[a]? with
      | some (.lst ds) => match toPys h n ds with | some ps => some (.list ps) | none => none
      | _ => none
termination_by (n, sizeOf d)
def toPys (h : Hst) (n : Nat) (ds : List D) : Option (List PyData) := match ds with
  | [] => some []
  | d :: ds => match toPy h n d, toPys h n ds with
    | some p, some ps => some (p :: ps)
    | _, _ => none
termination_by (n, sizeOf ds)
end
def eqB (x y : D) (h : Hst) : Option Bool :=
  if flatD x = true ∧ flatD y = true then some (eqF x y)
  else match toPy h 64 x, toPy h 64 y with
    | some p, some q => if p.depth ≤ 64 ∧ q.depth ≤ 64 then some (PyData.eqv p q) else none
    | _, _ => none
def eqD (x y : D) (h : Hst) : Res D := match eqB x y h with
  | some b => .ok (.bl b) h
  | none => .bad
def neD (x y : D) (h : Hst) : Res D := match eqB x y h with
  | some b => .ok (.bl (!b)) h
  | none => .bad
section
variable {K : KW} {m : List Addr} {H : Hp} {h : Hst}
mutual
theorem toPy_ok (R : RH K m H h) (n : Nat) (d : D) (v : V) (p : PyData) (r : RD K m H d v) (e : toPy h n d = some p) : Dp K H v p ∧ p.canLay0 = true := by
  cases r with
  | exc => rw [toPy] at e; cases e
  | non => rw [toPy] at e; cases e; exact ⟨.non, by simp [PyData.canLay0]⟩
  | bl b => rw [toPy] at e; cases e; exact ⟨.bl b, by simp [PyData.canLay0]⟩
  | int i => rw [toPy] at e; cases e; exact ⟨.int i, by simp [PyData.canLay0]⟩
  | @str s b =>
    rw [toPy] at e; cases e
    refine ⟨.str _, ?_⟩
    simp only [PyData.canLay0, PyData.strOk, List.size_toArray, List.all_toArray', List.all_eq_true, decide_eq_true_eq]
    exact b.cp
  | @tup ds vs a l q rs =>
    rw [toPy] at e
    split at e
    · rename_i ps he
      cases e
      obtain ⟨h1, h2⟩ := toPys_ok R n ds vs ps rs he
      exact ⟨.tup (.of q) h1, by simpa [PyData.canLay0] using h2⟩
    · cases e
  | @sl ds vs a l q rs =>
    rw [toPy] at e
    split at e
    · rename_i ps he
      cases e
      obtain ⟨h1, h2⟩ := toPys_ok R n ds vs ps rs he
      exact ⟨.lst q.seq h1, by simpa [PyData.canLay0] using h2⟩
    · cases e
  | @ref j a ha =>
    cases n with
    | zero => rw [toPy] at e; cases e
    | succ n =>
      rw [toPy] at e
      split at e
      · rename_i ds hd
        split at e
        · rename_i ps he
          cases e
          obtain ⟨_, vs, q, rs⟩ := R.look ha hd
          obtain ⟨h1, h2⟩ := toPys_ok R n ds vs ps rs he
          exact ⟨.lst (.of q) h1, by simpa [PyData.canLay0] using h2⟩
        · cases e
      · cases e
termination_by (n, sizeOf d)
theorem toPys_ok (R : RH K m H h) (n : Nat) (ds : List D) (vs : List V) (ps : List PyData) (r : RDs K m H ds vs) (e : toPys h n ds = some ps) : DpAll K H vs ps ∧ PyData.canLayAll0 ps = true := by
  cases r with
  | nil => rw [toPys] at e; cases e; exact ⟨.nil, by simp [PyData.canLayAll0]⟩
  | @cons d ds v vs r rs =>
    rw [toPys] at e
    split at e
    · rename_i p qs h1 h2
      cases e
      obtain ⟨a1, a2⟩ := toPy_ok R n d v p r h1
      obtain ⟨b1, b2⟩ := toPys_ok R n ds vs qs rs h2
      exact ⟨.cons a1 b1, by simp [PyData.canLayAll0, a2, b2]⟩
    · cases e
termination_by (n, sizeOf ds)
end
theorem flat_py {d : D} (f : flatD d = true) (n : Nat) : ∃ p, toPy h n d = some p ∧ p.depth = 0 ∧ ∀ e q, flatD e = true → toPy h n e = some q → PyData.eqv p q = eqF d e := by
  cases d with
  | non =>
    refine ⟨_, by rw [toPy], by simp [PyData.depth], fun e q fe he => ?_⟩
    cases e <;> first | (cases fe; done) | (rw [toPy] at he; cases he; rfl)
  | bl b =>
    refine ⟨_, by rw [toPy], by simp [PyData.depth], fun e q fe he => ?_⟩
    cases e <;> first | (cases fe; done) | (rw [toPy] at he; cases he; first | rfl | simp [PyData.eqv, eqF])
  | int i =>
    refine ⟨_, by rw [toPy], by simp [PyData.depth], fun e q fe he => ?_⟩
    cases e <;> first | (cases fe; done) | (rw [toPy] at he; cases he; first | rfl | simp [PyData.eqv, eqF])
  | str s =>
    refine ⟨_, by rw [toPy], by simp [PyData.depth], fun e q fe he => ?_⟩
    cases e with
    | str t =>
      rw [toPy] at he; cases he
      simp only [PyData.eqv, eqF]
      by_cases z : s = t
      · subst z; simp
      · rw [decide_eq_false z]
        simp [z]
    | _ => first | (cases fe; done) | (rw [toPy] at he; cases he; rfl)
  | _ => cases f
end
theorem eqB_ok {K : KW} {m : List Addr} {H : Hp} {h : Hst} {x y : D} {v u : V} {b : Bool} (R : RH K m H h) (rx : RD K m H x v) (ry : RD K m H y u) (e : eqB x y h = some b) :
    ∃ d e, Dp K H v d ∧ Dp K H u e ∧ SeqAt.shaped d = true ∧ SeqAt.shaped e = true ∧ PyData.eqv d e = b := by
  unfold eqB at e
  split at e
  · rename_i hf
    obtain ⟨p1, e1, d1, g1⟩ := flat_py (h := h) hf.1 64
    obtain ⟨p2, e2, d2, _⟩ := flat_py (h := h) hf.2 64
    obtain ⟨a1, b1⟩ := toPy_ok R 64 _ _ _ rx e1
    obtain ⟨a2, b2⟩ := toPy_ok R 64 _ _ _ ry e2
    exact ⟨p1, p2, a1, a2, by simp [SeqAt.shaped, b1, d1], by simp [SeqAt.shaped, b2, d2], by rw [g1 _ _ hf.2 e2]; exact Option.some.inj e⟩
  · split at e
    · rename_i p1 p2 e1 e2
      split at e
      · rename_i hd
        obtain ⟨a1, b1⟩ := toPy_ok R 64 _ _ _ rx e1
        obtain ⟨a2, b2⟩ := toPy_ok R 64 _ _ _ ry e2
        exact ⟨p1, p2, a1, a2, by simp [SeqAt.shaped, b1, hd.1], by simp [SeqAt.shaped, b2, hd.2], Option.some.inj e⟩
      · cases e
    · cases e
theorem vop_eq {K : KW} : Vop K (rEqD K) eqD := by
  intro W m H h x y v u σ Q R rx ry p
  unfold eqD at p
  split at p
  · rename_i b e
    obtain ⟨d, e, a1, a2, s1, s2, g⟩ := eqB_ok R rx ry e
    exact ⟨d, e, a1, a2, s1, s2, by rw [g]; exact p_bl R p⟩
  · exact p.elim
theorem vop_ne {K : KW} : Vop K (rNeD K) neD := by
  intro W m H h x y v u σ Q R rx ry p
  unfold neD at p
  split at p
  · rename_i b e
    obtain ⟨d, e, a1, a2, s1, s2, g⟩ := eqB_ok R rx ry e
    exact ⟨d, e, a1, a2, s1, s2, by rw [g]; exact p_bl R p⟩
  · exact p.elim
end Mi

namespace Mi
open PySem PySem.Spec PyProof.Rows L2

/-! ### dicts: what stands at a key -/
def lookD (kvs : List (D × D)) (k : D) : Option D := match kvs with
  | [] => none
  | p :: r => if p.1 = k then some p.2 else lookD r k
def putD (kvs : List (D × D)) (k v : D) : List (D × D) :=
  if (kvs.any fun p => decide (p.1 = k)) = true then kvs.map (fun p => if p.1 = k then (p.1, v) else p) else kvs ++ [(k, v)]
def dropD (kvs : List (D × D)) (k : D) : List (D × D) := kvs.filter fun p => decide (p.1 ≠ k)
theorem keyD_inj {a b : D} {k : Key} (ha : keyD a = some k) (hb : keyD b = some k) : a = b := by
  cases a with
  | int i =>
    cases hb' : b with
    | int j => rw [hb'] at hb; simp [keyD] at ha hb; rw [← ha] at hb; simp at hb; rw [hb]
    | str t => rw [hb'] at hb; simp [keyD] at ha hb; rw [← ha] at hb; simp at hb
    | _ => rw [hb'] at hb; simp [keyD] at hb
  | str s =>
    cases hb' : b with
    | int j => rw [hb'] at hb; simp [keyD] at ha hb; rw [← ha] at hb; simp at hb
    | str t => rw [hb'] at hb; simp [keyD] at ha hb; rw [← ha] at hb; simp at hb; rw [hb]
    | _ => rw [hb'] at hb; simp [keyD] at hb
  | _ => simp [keyD] at ha
theorem keysD_inj : ∀ {as bs : List D} {ks : List Key}, keysD as = some ks → keysD bs = some ks → as = bs
  | [], [], _, _, _ => rfl
  | [], b :: bs, _, h, g => by
    simp [keysD] at h; subst h
    simp only [keysD] at g
    split at g <;> simp at g
  | a :: as, [], _, h, g => by
    simp [keysD] at g; subst g
    simp only [keysD] at h
    split at h <;> simp at h
  | a :: as, b :: bs, ks, h, g => by
    simp only [keysD] at h g
    split at h
    · rename_i k1 r1 e1 e2
      split at g
      · rename_i k2 r2 e3 e4
        cases h
        injection g with g
        injection g with g1 g2
        subst g1 g2
        rw [keyD_inj e1 e3, keysD_inj e2 e4]
      · cases g
    · cases h
theorem tkeyD_inj {a b : D} {k : List Key} (ha : tkeyD a = some k) (hb : tkeyD b = some k) : a = b := by
  cases a <;> simp [tkeyD] at ha
  cases b <;> simp [tkeyD] at hb
  rw [keysD_inj ha hb]
section
variable {K : KW} {m : List Addr} {H : Hp} {κ : Type} [DecidableEq κ] {kd : D → Option κ}
def ROp (K : KW) (m : List Addr) (H : Hp) : Option D → Option V → Prop
  | some d, some v => RD K m H d v
  | none, none => True
  | _, _ => False
theorem RKV.look (inj : ∀ {a b : D} {k : κ}, kd a = some k → kd b = some k → a = b) {d : D} {c : κ} (hd : kd d = some c) : ∀ {kvs : List (D × D)} {ws : List (κ × V)}, RKV K m H kd kvs ws → ROp K m H (lookD kvs d) (valV ws c)
  | _, _, .nil => by simp [lookD, valV, ROp]
  | _, _, .cons (k := k) (d := x) (c := e) (v := v) (kvs := kvs) (ws := ws) ⟨hk, _⟩ r rs => by
    unfold lookD
    by_cases z : k = d
    · subst z
      rw [hd] at hk
      cases hk
      rw [if_pos rfl, valV_pos rfl]
      exact r
    · rw [if_neg z, valV_neg (fun q => z (by
        have q : e = c := q
        subst q
        exact inj hk hd))]
      exact RKV.look inj hd rs
theorem RKV.put (inj : ∀ {a b : D} {k : κ}, kd a = some k → kd b = some k → a = b) {d x : D} {c : κ} {v : V} (hd : kd d = some c) (hkg : KG d) (r : RD K m H x v) {kvs : List (D × D)} {ws : List (κ × V)} (rs : RKV K m H kd kvs ws) : RKV K m H kd (putD kvs d x) (putK ws c v) := by
  -- by the two forms of a store
  have key : ∀ {kvs : List (D × D)} {ws : List (κ × V)}, RKV K m H kd kvs ws → (ws.any fun kv => decide (kv.1 = c)) = (kvs.any fun kv => decide (kv.1 = d)) := by
    intro kvs ws rs
    induction rs with
    | nil => rfl
    | @cons k y e w kvs ws hk0 r rs ih =>
      have hk := hk0.1
      rw [List.any_cons, List.any_cons, ih]
      congr 1
      by_cases z : k = d
      · subst z
        rw [hd] at hk; cases hk
        simp
      · have : ¬ e = c := fun q => z (by subst q; exact inj hk hd)
        simp [z, this]
  have app : ∀ {kvs : List (D × D)} {ws : List (κ × V)}, RKV K m H kd kvs ws → RKV K m H kd (kvs ++ [(d, x)]) (ws ++ [(c, v)]) := by
    intro kvs ws rs
    induction rs with
    | nil => exact .cons ⟨hd, hkg⟩ r .nil
    | cons hk r' rs ih => exact .cons hk r' ih
  have rep : ∀ {kvs : List (D × D)} {ws : List (κ × V)}, RKV K m H kd kvs ws → RKV K m H kd (kvs.map fun p => if p.1 = d then (p.1, x) else p) (ws.map fun kv => if kv.1 = c then (kv.1, v) else kv) := by
    intro kvs ws rs
    induction rs with
    | nil => exact .nil
    | @cons k y e w kvs ws hk0 r' rs ih =>
      have hk := hk0.1
      rw [List.map_cons, List.map_cons]
      by_cases z : k = d
      · subst z
        rw [hd] at hk; cases hk
        rw [if_pos rfl, if_pos rfl]
        exact .cons ⟨hd, hkg⟩ r ih
      · have z2 : ¬ e = c := fun q => z (by subst q; exact inj hk hd)
        rw [if_neg z, if_neg z2]
        exact .cons hk0 r' ih
  unfold putD L2.putK
  rw [key rs]
  split
  · exact rep rs
  · exact app rs
theorem RKV.drop (inj : ∀ {a b : D} {k : κ}, kd a = some k → kd b = some k → a = b) {d : D} {c : κ} (hd : kd d = some c) {kvs : List (D × D)} {ws : List (κ × V)} (rs : RKV K m H kd kvs ws) : RKV K m H kd (dropD kvs d) (dropK ws c) := by
  unfold dropD L2.dropK
  induction rs with
  | nil => exact .nil
  | @cons k y e w kvs ws hk0 r' rs ih =>
    have hk := hk0.1
    by_cases z : k = d
    · subst z
      rw [hd] at hk; cases hk
      simpa using ih
    · have z2 : ¬ e = c := fun q => z (by subst q; exact inj hk hd)
      rw [List.filter_cons_of_pos (by simpa using z), List.filter_cons_of_pos (by simpa using z2)]
      exact .cons hk0 r' ih
end
theorem kg1_of {K : KW} {m : List Addr} {H : Hp} {d : D} {v : V} (r : RD K m H d v) : KG1 d := by
  cases r with
  | str b => exact b
  | _ => trivial
theorem kg1s_of {K : KW} {m : List Addr} {H : Hp} : ∀ {ds : List D} {vs : List V}, RDs K m H ds vs → ∀ d ∈ ds, KG1 d
  | _, _, .nil, _, h => by cases h
  | _, _, .cons r rs, d, h => by
    rcases List.mem_cons.mp h with rfl | h
    · exact kg1_of r
    · exact kg1s_of rs d h
theorem kg_of {K : KW} {m : List Addr} {H : Hp} {d : D} {v : V} (r : RD K m H d v) : KG d := by
  cases r with
  | str b => exact b
  | tup l _ rs => exact ⟨l, kg1s_of rs⟩
  | _ => trivial
theorem key_rd {K : KW} {m : List Addr} {H : Hp} {d : D} {k : Key} (e : keyD d = some k) (g : KG1 d) : RD K m H d (kV k) := by
  cases d with
  | int i => simp [keyD] at e; subst e; exact .int i
  | str s => simp [keyD] at e; subst e; exact .str g
  | _ => simp [keyD] at e
theorem keys_rd {K : KW} {m : List Addr} {H : Hp} : ∀ {ds : List D} {ks : List Key}, keysD ds = some ks → (∀ d ∈ ds, KG1 d) → RDs K m H ds (ks.map kV)
  | [], _, e, _ => by simp [keysD] at e; subst e; exact .nil
  | d :: ds, _, e, g => by
    simp only [keysD] at e
    split at e
    · rename_i k ks e1 e2
      cases e
      exact .cons (key_rd e1 (g d List.mem_cons_self)) (keys_rd e2 fun x h => g x (List.mem_cons_of_mem _ h))
    · cases e
/-- a key's answer in the dict -/
def dGet (kvs : List (D × D)) (tk : Bool) (k : D) : Option (Option D) := match tk with
  | false => if (keyD k).isSome = true then some (lookD kvs k) else none
  | true => if (tkeyD k).isSome = true then some (lookD kvs k) else none
theorem keyD_rel {K : KW} {m : List Addr} {H : Hp} {d : D} {v : V} {k : Key} (r : RD K m H d v) (e : keyD d = some k) : v = kV k := by
  cases r with
  | int i => simp [keyD] at e; subst e; rfl
  | str b => simp [keyD] at e; subst e; rfl
  | _ => simp [keyD] at e
theorem keysD_rel {K : KW} {m : List Addr} {H : Hp} : ∀ {ds : List D} {vs : List V} {ks : List Key}, RDs K m H ds vs → keysD ds = some ks → vs = ks.map kV
  | _, _, _, .nil, e => by simp [keysD] at e; subst e; rfl
  | _, _, _, .cons r rs, e => by
    simp only [keysD] at e
    split at e
    · rename_i k ks e1 e2
      cases e
      rw [keyD_rel r e1, keysD_rel rs e2]
      rfl
    · cases e
section
variable {K : KW} {m : List Addr} {H : Hp} {h : Hst} {n : Nat} {a : Addr} {tk : Bool} {kvs : List (D × D)} {d : D} {y : V}
theorem dGet_ok (R : RH K m H h) (ha : m[n]? = some a) (e : h[n]? = some (.dic tk kvs)) (r : RD K m H d y) {o : Option D} (g : dGet kvs tk d = some o) : ∃ ov, DGet H a y ov ∧ ROp K m H o ov := by
  cases tk with
  | false =>
    obtain ⟨ws, q, rs⟩ := R.look ha e
    unfold dGet at g
    dsimp only at g
    split at g
    · rename_i hk
      obtain ⟨k, hk⟩ := Option.isSome_iff_exists.mp hk
      cases g
      rw [keyD_rel r hk]
      exact ⟨_, .k q, rs.look keyD_inj hk⟩
    · cases g
  | true =>
    obtain ⟨ws, q, rs⟩ := R.look ha e
    unfold dGet at g
    dsimp only at g
    split at g
    · rename_i hk
      obtain ⟨k, hk⟩ := Option.isSome_iff_exists.mp hk
      cases g
      have hkg := kg_of r
      cases r with
      | tup l q2 r2 =>
        have e2 := keysD_rel r2 (show keysD _ = some k from hk)
        subst e2
        exact ⟨_, .t q q2, rs.look tkeyD_inj hk⟩
      | _ => simp [tkeyD] at hk
    · cases g
theorem dGetF_ok (R : RH K m H h) (ha : m[n]? = some a) (e : h[n]? = some (.fdc false kvs)) (r : RD K m H d y) {o : Option D} (g : dGet kvs false d = some o) : ∃ ov, DGet H a y ov ∧ ROp K m H o ov := by
  obtain ⟨f, ws, q, rs⟩ := R.look ha e
  unfold dGet at g
  dsimp only at g
  split at g
  · rename_i hk0
    cases g
    obtain ⟨k, hk⟩ := Option.isSome_iff_exists.mp hk0
    rw [keyD_rel r hk]
    exact ⟨_, .inl ⟨ws, k, .inr ⟨f, q⟩, rfl, rfl⟩, rs.look keyD_inj hk⟩
  · cases g
def dPut (kvs : List (D × D)) (tk : Bool) (k v : D) : Option (List (D × D)) := match tk with
  | false => if (keyD k).isSome = true ∧ kvs.length < 16777216 then some (putD kvs k v) else none
  | true => if (tkeyD k).isSome = true ∧ kvs.length < 16777216 then some (putD kvs k v) else none
theorem dPut_ok (R : RH K m H h) (ha : m[n]? = some a) (e : h[n]? = some (.dic tk kvs)) (r : RD K m H d y) {x : D} {v : V} (rx : RD K m H x v) {kvs' : List (D × D)} (g : dPut kvs tk d x = some kvs') :
    ∃ H', DPut H a y v H' ∧ Ext K m H m H' ∧ RH K m H' (h.set n (.dic tk kvs')) := by
  have mu : Mut (H a) := by obtain ⟨u, q, z⟩ := (R.look ha e).mut fun _ _ z => nomatch z; rw [q]; exact z
  have xt : ∀ o, Ext K m H m (upd H a o) := fun o => Ext.write ha mu
  cases tk with
  | false =>
    obtain ⟨ws, q, rs⟩ := R.look ha e
    unfold dPut at g
    dsimp only at g
    split at g
    · rename_i hk
      obtain ⟨k, hk1⟩ := Option.isSome_iff_exists.mp hk.1
      cases g
      rw [keyD_rel r hk1]
      have l := rs.length
      exact ⟨_, .k q (by rw [sl_eq]; omega), xt _, R.write ha mu ⟨_, upd_same, (rs.put keyD_inj hk1 (kg_of r) rx).mono (xt _).e⟩⟩
    · cases g
  | true =>
    obtain ⟨ws, q, rs⟩ := R.look ha e
    unfold dPut at g
    dsimp only at g
    split at g
    · rename_i hk
      obtain ⟨k, hk1⟩ := Option.isSome_iff_exists.mp hk.1
      cases g
      have hkg := kg_of r
      cases r with
      | tup l q2 r2 =>
        have e2 := keysD_rel r2 (show keysD _ = some k from hk1)
        subst e2
        have l := rs.length
        exact ⟨_, .t q q2 (by rw [sl_eq]; omega), xt _, R.write ha mu ⟨_, upd_same, (rs.put tkeyD_inj hk1 hkg rx).mono (xt _).e⟩⟩
      | _ => simp [tkeyD] at hk1
    · cases g
end

/-! ### in -/
theorem key_mem {x : D} {k : Key} (hk : keyD x = some k) : ∀ {ks : List D} {keys : List Key}, keysD ks = some keys → (x ∈ ks ↔ k ∈ keys)
  | [], keys, e => by
    cases (Option.some.inj e)
    simp
  | d :: ds, keys, e => by
    unfold keysD at e
    cases e1 : keyD d with
    | none => rw [e1] at e; cases e
    | some k1 =>
      cases e2 : keysD ds with
      | none => rw [e1, e2] at e; cases e
      | some k2 =>
        rw [e1, e2] at e
        cases (Option.some.inj e)
        rw [List.mem_cons, List.mem_cons, key_mem hk e2]
        refine or_congr ⟨fun z => ?_, fun z => ?_⟩ Iff.rfl
        · subst z; rw [e1] at hk; exact (Option.some.inj hk).symm
        · subst z; exact keyD_inj hk e1
theorem hu65 {k : Nat} {A : Around} (r : Room k A) : A.units + 65 < cLine := by have := r.un; omega
def inB (x y : D) (h : Hst) : Option Bool := match y with
  | .str s => match x with
    | .str [c] => some (decide (c ∈ s))
    | _ => none
  | .tup xs => if flatD x = true ∧ xs.all flatD = true then some (xs.any fun z => eqF z x) else none
  | .sl xs => if flatD x = true ∧ xs.all flatD = true then some (xs.any fun z => eqF z x) else none
  | .ref n => match h[n]? with
    | some (.lst xs) => if flatD x = true ∧ xs.all flatD = true then some (xs.any fun z => eqF z x) else match toPy h 64 x, toPys h 63 xs with
      | some d, some ps => if d.depth ≤ 64 ∧ (PyData.list ps).depth ≤ 64 then some (ps.any fun z => PyData.eqv z d) else none
      | _, _ => none
    | some (.dic tk kvs) => match dGet kvs tk x with
      | some o => some o.isSome
      | none => none
    | some (.set ks) => match keyD x with
      | some _ => some (decide (x ∈ ks))
      | none => none
    | some (.fdc false kvs) => match dGet kvs false x with
      | some o => some o.isSome
      | none => none
    | _ => none
  | _ => none
def inD (x y : D) (h : Hst) : Res D := match inB x y h with
  | some b => .ok (.bl b) h
  | none => .bad
def ninD (x y : D) (h : Hst) : Res D := match inB x y h with
  | some b => .ok (.bl (!b)) h
  | none => .bad
def rInA (K : KW) (neg : Bool) : R2 := fun x y H Q => ∃ b, (if neg then Q (.bl (!b)) H else Q (.bl b) H) ∧
  ((∃ (c : Nat) (z : Str), x = .str ⟨#[c]⟩ ∧ y = .str z ∧ b = decide (c ∈ z.cps.toList)) ∨ (∃ p xs, y = .ref p ∧ (SqL K H p xs ∨ SqT K H p xs) ∧ flatV x = true ∧ xs.all flatV = true ∧ b = inV x xs) ∨ (∃ a o, y = .ref a ∧ DGet H a x o ∧ b = o.isSome) ∨ (∃ (P : Program) (a : Addr) (k : Key) (S : Key → Bool) (n : Nat), x = kV k ∧ y = .ref a ∧ H a = some (SetK P K.w a S n) ∧ b = S k) ∨ ∃ d ds, Dp K.K H x d ∧ Dp K.K H y (.list ds) ∧ SeqAt.shaped d = true ∧ SeqAt.shaped (.list ds) = true ∧ b = ds.any fun z => PyData.eqv z d)
theorem op_inA {X : Cx} (hu : X.A.units + 65 < cLine) : OpR X (compareOp .In) (rInA X.Kw false) := by
  intro pins s σ H x y v u Q I rx ry h
  obtain ⟨b, q, h⟩ := h
  simp only [Bool.false_eq_true, if_false] at q
  rcases h with ⟨c, z, rfl, rfl, rfl⟩ | ⟨p, xs, rfl, hs, f1, f2, rfl⟩ | ⟨a, o, rfl, g, rfl⟩ | ⟨P, a, k, S, n, rfl, rfl, hS, rfl⟩ | ⟨d, ds, h1, h2, h3, h4, rfl⟩
  · exact op_in_sign pins s σ H _ _ v u Q I rx ry ⟨c, z, rfl, rfl, q⟩
  · exact op_in_seq pins s σ H _ _ v u Q I rx ry ⟨p, xs, rfl, hs, f1, f2, by simpa using q⟩
  · cases ry
    exact d_in (by omega) I g rx fun s' I' => ⟨.bl _, H, I', rfl, q⟩
  · exact or_sinK pins s σ H _ _ v u Q I rx ry ⟨k, a, S, n, rfl, rfl, hS, q⟩
  · exact op_inD hu pins s σ H _ _ v u Q I rx ry ⟨d, ds, h1, h2, h3, h4, q⟩
theorem op_ninA {X : Cx} (hu : X.A.units + 65 < cLine) : OpR X (compareOp .NotIn) (rInA X.Kw true) := by
  intro pins s σ H x y v u Q I rx ry h
  obtain ⟨b, q, h⟩ := h
  simp only [if_true] at q
  rcases h with ⟨c, z, rfl, rfl, rfl⟩ | ⟨p, xs, rfl, hs, f1, f2, rfl⟩ | ⟨a, o, rfl, g, rfl⟩ | ⟨P, a, k, S, n, rfl, rfl, hS, rfl⟩ | ⟨d, ds, h1, h2, h3, h4, rfl⟩
  · exact op_notIn_sign pins s σ H _ _ v u Q I rx ry ⟨c, z, rfl, rfl, q⟩
  · exact op_notIn_seq pins s σ H _ _ v u Q I rx ry ⟨p, xs, rfl, hs, f1, f2, by simpa using q⟩
  · cases ry
    exact d_notIn (by omega) I g rx fun s' I' => ⟨.bl _, H, I', rfl, q⟩
  · exact or_snotinK pins s σ H _ _ v u Q I rx ry ⟨k, a, S, n, rfl, rfl, hS, q⟩
  · exact op_notInD hu pins s σ H _ _ v u Q I rx ry ⟨d, ds, h1, h2, h3, h4, q⟩
section
variable {K : KW} {m : List Addr} {H : Hp} {h : Hst}
theorem flat_rel {d : D} {v : V} (r : RD K m H d v) (f : flatD d = true) : flatV v = true := by
  cases r <;> first | rfl | cases f
theorem eqF_rel {d e : D} {v u : V} (r : RD K m H d v) (q : RD K m H e u) (f : flatD d = true) (g : flatD e = true) : eqV v u = eqF d e := by
  cases r <;> first | (cases f; done) | (cases q <;> first | (cases g; done) | rfl | (simp [eqV, eqF]))
  rename_i s hs t ht
  by_cases z : s = t
  · subst z; simp
  · simp [z]
theorem flats_rel : ∀ {ds : List D} {vs : List V}, RDs K m H ds vs → ds.all flatD = true → vs.all flatV = true
  | _, _, .nil, _ => rfl
  | _, _, .cons r rs, f => by
    rw [List.all_cons, Bool.and_eq_true] at f ⊢
    exact ⟨flat_rel r f.1, flats_rel rs f.2⟩
theorem any_rel {d : D} {v : V} (r : RD K m H d v) (f : flatD d = true) : ∀ {ds : List D} {vs : List V}, RDs K m H ds vs → ds.all flatD = true → inV v vs = ds.any fun z => eqF z d
  | _, _, .nil, _ => rfl
  | _, _, .cons q rs, g => by
    rw [List.all_cons, Bool.and_eq_true] at g
    unfold inV
    rw [List.any_cons, List.any_cons, eqF_rel q r g.1 f]
    exact congrArg _ (any_rel r f rs g.2)
theorem ROp.some_eq {o : Option D} {ov : Option V} (r : ROp K m H o ov) : ov.isSome = o.isSome := by
  cases o <;> cases ov <;> first | rfl | exact r.elim
theorem inB_ok {x y : D} {v u : V} {b : Bool} (R : RH K m H h) (rx : RD K m H x v) (ry : RD K m H y u) (e : inB x y h = some b) :
    (∃ (c : Nat) (z : Str), v = .str ⟨#[c]⟩ ∧ u = .str z ∧ b = decide (c ∈ z.cps.toList)) ∨ (∃ p xs, u = .ref p ∧ (SqL K H p xs ∨ SqT K H p xs) ∧ flatV v = true ∧ xs.all flatV = true ∧ b = inV v xs) ∨ (∃ a o, u = .ref a ∧ DGet H a v o ∧ b = o.isSome) ∨ (∃ (P : Program) (a : Addr) (k : Key) (S : Key → Bool) (n : Nat), v = kV k ∧ u = .ref a ∧ H a = some (SetK P K.w a S n) ∧ b = S k) ∨ ∃ d ds, Dp K.K H v d ∧ Dp K.K H u (.list ds) ∧ SeqAt.shaped d = true ∧ SeqAt.shaped (.list ds) = true ∧ b = ds.any fun z => PyData.eqv z d := by
  unfold inB at e
  split at e
  · split at e
    · cases rx; cases ry
      cases e
      exact .inl ⟨_, _, rfl, rfl, by simp⟩
    · cases e
  · split at e
    · rename_i hf
      cases e
      cases ry with
      | tup l q r => exact .inr (.inl ⟨_, _, rfl, .inr (.of q), flat_rel rx hf.1, flats_rel r hf.2, (any_rel rx hf.1 r hf.2).symm⟩)
    · cases e
  · split at e
    · rename_i hf
      cases e
      cases ry with
      | sl l q r => exact .inr (.inl ⟨_, _, rfl, .inl q.seq, flat_rel rx hf.1, flats_rel r hf.2, (any_rel rx hf.1 r hf.2).symm⟩)
    · cases e
  · cases ry with
    | ref ha =>
      split at e
      · rename_i xs he
        split at e
        · rename_i hf
          cases e
          obtain ⟨_, vs, q, r⟩ := R.look ha he
          exact .inr (.inl ⟨_, _, rfl, .inl (.of q), flat_rel rx hf.1, flats_rel r hf.2, (any_rel rx hf.1 r hf.2).symm⟩)
        · split at e
          · rename_i p1 p2 e1 e2
            split at e
            · rename_i hd
              obtain ⟨a1, b1⟩ := toPy_ok R 64 _ _ _ rx e1
              have e3 : ∀ {q : Nat}, h[q]? = some (.lst xs) → toPy h 64 (.ref q) = some (.list p2) := fun he => by rw [toPy, he]; dsimp only; rw [e2]
              obtain ⟨a2, b2⟩ := toPy_ok R 64 _ _ _ (.ref ha) (e3 he)
              exact .inr (.inr (.inr (.inr ⟨p1, p2, a1, a2, by simp [SeqAt.shaped, b1, hd.1], by simp [SeqAt.shaped, b2, hd.2], (Option.some.inj e).symm⟩)))
            · cases e
          · cases e
      · rename_i tk kvs he
        split at e
        · rename_i o g
          cases e
          obtain ⟨ov, g1, g2⟩ := dGet_ok R ha he rx g
          exact .inr (.inr (.inl ⟨_, ov, rfl, g1, g2.some_eq.symm⟩))
        · cases e
      · rename_i ks he
        split at e
        · rename_i k hk
          cases e
          obtain ⟨P, S, keys, q, hks, hS⟩ := R.look ha he
          refine .inr (.inr (.inr (.inl ⟨P, _, k, S, _, keyD_rel rx hk, rfl, q, ?_⟩)))
          have z := key_mem hk hks
          by_cases hx : x ∈ ks
          · rw [decide_eq_true hx]; exact ((hS k).mpr (z.mp hx)).symm
          · rw [decide_eq_false hx]
            cases hb : S k with
            | false => rfl
            | true => exact absurd (z.mpr ((hS k).mp hb)) hx
        · cases e
      · rename_i kvs he
        split at e
        · rename_i o g
          cases e
          obtain ⟨ov, g1, g2⟩ := dGetF_ok R ha he rx g
          exact .inr (.inr (.inl ⟨_, ov, rfl, g1, g2.some_eq.symm⟩))
        · cases e
      · cases e
  · cases e
end
theorem vop_in {K : KW} : Vop K (rInA K false) inD := by
  intro W m H h x y v u σ Q R rx ry p
  unfold inD at p
  split at p
  · rename_i b e
    exact ⟨b, by simpa using p_bl R p, inB_ok R rx ry e⟩
  · exact p.elim
theorem vop_nin {K : KW} : Vop K (rInA K true) ninD := by
  intro W m H h x y v u σ Q R rx ry p
  unfold ninD at p
  split at p
  · rename_i b e
    exact ⟨b, by simpa using p_bl R p, inB_ok R rx ry e⟩
  · exact p.elim

/-! ### a[b] -/
def ixD (x y : D) (h : Hst) : Res D := match x, y with
  | .tup xs, .int i => match atI xs i with
    | some d => .ok d h
    | none => .bad
  | .sl xs, .int i => match atI xs i with
    | some d => .ok d h
    | none => .bad
  | .str s, .int i => match atI s i with
    | some c => .ok (.str [c]) h
    | none => .bad
  | .ref n, k => match h[n]? with
    | some (.lst xs) => match k with
      | .int i => match atI xs i with
        | some d => .ok d h
        | none => .bad
      | _ => .bad
    | some (.dic tk kvs) => match dGet kvs tk k with
      | some (some d) => .ok d h
      | _ => .bad
    | some (.fdc false kvs) => match dGet kvs false k with
      | some (some d) => .ok d h
      | _ => .bad
    | _ => .bad
  | _, _ => .bad
def rIxA (K : KW) : R2 := fun x y H Q => rIx K x y H Q ∨ ∃ a v, x = .ref a ∧ DGet H a y (some v) ∧ Q v H
theorem ix_A {X : Cx} (hu : X.A.units + 1 < cLine) : IxR X (rIxA X.Kw) := ix_seq.or (by
  intro value slice pins s σ H x y v u Q I rx ry q hs
  obtain ⟨a, w, rfl, g, q⟩ := q
  cases rx
  exact tail_any (dict_typeIs I g) PySem.F.slot_dict_getitem.lookup (d_getItem hu I g ry fun w' s3 I3 rw' => ⟨w, H, I3, rw', q⟩) hs)
theorem RDs.atI {K : KW} {m : List Addr} {H : Hp} {ds : List D} {vs : List V} (r : RDs K m H ds vs) {i : Int} {d : D} (e : L2.atI ds i = some d) : ∃ v, L2.atI vs i = some v ∧ RD K m H d v := by
  unfold L2.atI at e ⊢
  rw [← r.length]
  cases q : ixN ds.length i with
  | none => rw [q] at e; cases e
  | some j =>
    rw [q] at e
    exact r.get (show ds[j]? = some d from e)
theorem atI_mem {α : Type} {xs : List α} {i : Int} {c : α} (e : L2.atI xs i = some c) : c ∈ xs := by
  unfold L2.atI at e
  cases q : ixN xs.length i with
  | none => rw [q] at e; cases e
  | some j => rw [q] at e; exact List.mem_of_getElem? (show xs[j]? = some c from e)
theorem vop_ix {K : KW} : Vop K (rIxA K) ixD := by
  intro W m H h x y v u σ Q R rx ry p
  unfold ixD at p
  split at p
  · split at p
    · rename_i d e
      cases ry
      cases rx with
      | tup l q r =>
        obtain ⟨w, e1, r1⟩ := r.atI e
        exact .inl (.inr (.inl ⟨_, _, _, w, rfl, rfl, .of q, e1, po_ok p R r1⟩))
    · exact p.elim
  · split at p
    · rename_i d e
      cases ry
      cases rx with
      | sl l q r =>
        obtain ⟨w, e1, r1⟩ := r.atI e
        exact .inl (.inl ⟨_, _, _, w, rfl, rfl, q.seq, e1, po_ok p R r1⟩)
    · exact p.elim
  · split at p
    · rename_i c e
      cases ry
      cases rx with
      | str b =>
        have hc := atI_mem e
        refine .inl (.inr (.inr ⟨_, _, c, rfl, rfl, by rw [str_len]; exact b.len, by simpa using e, ?_⟩))
        exact po_ok p R (.str (s := [c]) ⟨by rw [sl_eq]; simp, fun z hz => by
          have : z = c := by simpa using hz
          rw [this]; exact b.cp c hc⟩)
    · exact p.elim
  · cases rx with
    | ref ha =>
      split at p
      · rename_i he
        obtain ⟨_, vs, q, r⟩ := R.look ha he
        split at p
        · split at p
          · rename_i d e
            cases ry
            obtain ⟨w, e1, r1⟩ := r.atI e
            exact .inl (.inl ⟨_, _, _, w, rfl, rfl, .of q, e1, po_ok p R r1⟩)
          · exact p.elim
        · exact p.elim
      · rename_i tk kvs he
        split at p
        · rename_i d g
          obtain ⟨ov, g1, g2⟩ := dGet_ok R ha he ry g
          cases ov with
          | none => exact g2.elim
          | some w => exact .inr ⟨_, w, rfl, g1, po_ok p R g2⟩
        · exact p.elim
      · rename_i kvs he
        split at p
        · rename_i d g
          obtain ⟨ov, g1, g2⟩ := dGetF_ok R ha he ry g
          cases ov with
          | none => exact g2.elim
          | some w => exact .inr ⟨_, w, rfl, g1, po_ok p R g2⟩
        · exact p.elim
      · exact p.elim
  · exact p.elim
section
variable {X : Cx} {W : WX} {a b : Expr} {pos : Pos}
theorem se_ix (hu : X.A.units + 1 < cLine) {fa fb : Ev} (ha : SE X W a fa) (hb : SE X W b fb) (hs : PlainIx b := by intro _ _; rfl) : SE X W (.Subscript a b pos) (vB ixD fa fb) :=
  viaE (pe_ix (ix_A hu) ha hb hs) (rd_bin vop_ix)
end
end Mi

namespace Mi
open PySem PySem.Spec PyProof.Rows L2

/-! ### slices -/
abbrev EvO := En → Hst → Res (Option Int)
def RdO (K : KW) (W : WX) (f : EvO) : TO := fun σ H Q => ∃ m en h, RH K m H h ∧ REn K m H en σ ∧ Po K W (fun _ _ a b => a = b) m H σ (f en h) Q
abbrev SO (X : Cx) (W : WX) (e : Option Expr) (f : EvO) : Prop := PO X e (RdO X.Kw W f)
def oN : EvO := fun _ h => .ok none h
def oS (f : Ev) : EvO := fun en h => (f en h).bind fun d h1 => match d with
  | .int i => .ok (some i) h1
  | _ => .bad
def cutL {α : Type} (xs : List α) (lo hi : Option Int) : List α := (xs.drop (HT.sIx xs.length 0 lo)).take (HT.sIx xs.length xs.length hi - HT.sIx xs.length 0 lo)
theorem cutL_len {α : Type} (xs : List α) (lo hi : Option Int) : (cutL xs lo hi).length ≤ xs.length := by
  unfold cutL
  rw [List.length_take, List.length_drop]
  omega
theorem RDs.cut {K : KW} {m : List Addr} {H : Hp} {ds : List D} {vs : List V} (r : RDs K m H ds vs) (lo hi : Option Int) : RDs K m H (cutL ds lo hi) (cutV vs lo hi) := by
  unfold cutL cutV
  rw [r.length]
  exact (r.drop _).take _
def slD (x : D) (lo hi : Option Int) (h : Hst) : Res D := match x with
  | .tup xs => .ok (.tup (cutL xs lo hi)) h
  | .sl xs => .ok (.ref h.length) (h ++ [.lst (cutL xs lo hi)])
  | .str s => .ok (.str (cutL s lo hi)) h
  | .ref n => match h[n]? with
    | some (.lst xs) => .ok (.ref h.length) (h ++ [.lst (cutL xs lo hi)])
    | _ => .bad
  | _ => .bad
def rSlM (K : KW) : V → Option Int → Option Int → Hp → VK → Prop := fun x lo hi H Q => rSlL K x lo hi H Q ∨ rSlA K x lo hi H Q ∨ rSlS x lo hi H Q
theorem sl_M {X : Cx} : SlR X (rSlM X.Kw) := sl_list.or (sl_tupA.or sl_str)
theorem cutL_all {α : Type} {xs : List α} {lo hi : Option Int} (h : HT.sIx xs.length 0 lo = 0 ∧ HT.sIx xs.length xs.length hi = xs.length) : cutL xs lo hi = xs := by
  unfold cutL
  rw [h.1, h.2]
  simp
theorem cutS_eq (s : List Nat) (lo hi : Option Int) : cutS ⟨s.toArray⟩ lo hi = ⟨(cutL s lo hi).toArray⟩ := by
  unfold L2.cutS cutL
  simp [Str.length]
theorem cutL_mem {α : Type} {xs : List α} {lo hi : Option Int} {c : α} (h : c ∈ cutL xs lo hi) : c ∈ xs := List.mem_of_mem_drop (List.mem_of_mem_take h)
section
variable {X : Cx} {W : WX} {e : Expr} {lo hi : Option Expr} {p2 pos : Pos}
theorem so_none : SO X W none oN := ⟨fun pins s σ H Q I ⟨m, en, h, R, E, p⟩ => po_none.run pins s σ H Q I (po_ok (rel := fun _ _ a b => a = b) p R rfl)⟩
theorem so_some {f : Ev} (h : SE X W e f) : SO X W (some e) (oS f) := ⟨fun pins s σ H Q I ⟨m, en, hh, R, E, p⟩ => (po_some h).run pins s σ H Q I ⟨m, en, hh, R, E, Po.imp (Po.bind (rel := RD X.Kw) p) fun x H1 ⟨m1, d, h1, x1, R1, ra, p1⟩ => by
  cases ra with
  | int i => exact ⟨i, rfl, po_ok (rel := fun _ _ a b => a = b) p1 R1 rfl⟩
  | _ => exact p1.elim⟩⟩
def vSl (f : Ev) (l u : EvO) : Ev := fun en h => (f en h).bind fun x h1 => (l en h1).bind fun a h2 => (u en h2).bind fun b h3 => slD x a b h3
theorem se_slice {f : Ev} {l u : EvO} (he : SE X W e f) (hl : SO X W lo l) (hu : SO X W hi u) : SE X W (.Subscript e (.Slice lo hi none p2) pos) (vSl f l u) :=
  viaE (pe_slice sl_M he hl hu) fun σ H Q ⟨m, en, h, R, E, p⟩ => ⟨m, en, h, R, E, Po.imp (Po.bind (rel := RD X.Kw) p) fun x H1 ⟨m1, d, h1, x1, R1, ra, p1⟩ =>
    ⟨m1, en, h1, R1, E.mono x1, Po.imp (Po.bind (rel := fun _ _ a b => a = b) p1) fun i H2 ⟨m2, a, h2, x2, R2, ea, p2⟩ =>
    ⟨m2, en, h2, R2, E.mono (x1.trans x2), Po.imp (Po.bind (rel := fun _ _ a b => a = b) p2) fun j H3 ⟨m3, b, h3, x3, R3, eb, p3⟩ => by
      subst ea eb
      have r := ra.mono (x2.trans x3).e
      unfold slD at p3
      split at p3
      · cases r with
        | tup l q rs =>
          have el := rs.length
          refine .inr (.inl ⟨_, _, rfl, .of q, fun z => ?_, fun _ => new_tup R3 (rs.cut _ _) (Nat.le_trans (cutL_len _ _ _) (by rw [← sl_eq]; exact l)) p3⟩)
          rw [← el] at z
          rw [cutL_all z] at p3
          exact po_ok p3 R3 (.tup l q rs)
      · cases r with
        | sl l q rs => exact .inl ⟨_, _, rfl, q.seq, new_lst R3 (rs.cut _ _) (Nat.le_trans (cutL_len _ _ _) (by rw [← sl_eq]; exact l)) p3⟩
      · cases r with
        | str bb => exact .inr (.inr ⟨_, rfl, by rw [str_len]; exact bb.len, by rw [cutS_eq]; exact po_ok p3 R3 (.str ⟨Nat.le_trans (cutL_len _ _ _) bb.len, fun c hc => bb.cp c (cutL_mem hc)⟩)⟩)
      · split at p3
        · rename_i xs he
          cases r with
          | ref ha =>
            obtain ⟨l, vs, q, rs⟩ := R3.look ha he
            exact .inl ⟨_, _, rfl, .of q, new_lst R3 (rs.cut _ _) (Nat.le_trans (cutL_len _ _ _) (by rw [← sl_eq]; exact l)) p3⟩
        · exact p3.elim
      · exact p3.elim⟩⟩⟩
/-- xs[::-1] of a list -/
def revD (x : D) (h : Hst) : Res D := match x with
  | .sl xs => .ok (.ref h.length) (h ++ [.lst xs.reverse])
  | .ref n => match h[n]? with
    | some (.lst xs) => .ok (.ref h.length) (h ++ [.lst xs.reverse])
    | _ => .bad
  | _ => .bad
theorem se_rev {f : Ev} {k : Nat} {p1 p2 p3 : Pos} (he : SE X W e f) : SE X W (.Subscript e (.Slice none none (some (.UnaryOp .USub (.Constant (.int 1) k p1) p2)) p3) pos) (vU revD f) :=
  viaE (pe_revL he) fun σ H Q ⟨m, en, h, R, E, p⟩ => ⟨m, en, h, R, E, Po.imp (Po.bind (rel := RD X.Kw) p) fun x H1 ⟨m1, d, h1, x1, R1, r, p1⟩ => by
    unfold revD at p1
    split at p1
    · cases r with
      | sl l q rs => exact ⟨_, _, rfl, q.seq, new_lst R1 rs.reverse (by rw [List.length_reverse, ← sl_eq]; exact l) p1⟩
    · split at p1
      · rename_i xs he
        cases r with
        | ref ha =>
          obtain ⟨l, vs, q, rs⟩ := R1.look ha he
          exact ⟨_, _, rfl, .of q, new_lst R1 rs.reverse (by rw [List.length_reverse, ← sl_eq]; exact l) p1⟩
      · exact p1.elim
    · exact p1.elim⟩
theorem se_neg {f : Ev} (he : SE X W e f) : SE X W (.UnaryOp .USub e pos) (vU negD f) :=
  viaE (pe_un un_neg he) fun σ H Q ⟨m, en, h, R, E, p⟩ => ⟨m, en, h, R, E, Po.imp (Po.bind (rel := RD X.Kw) p) fun x H1 ⟨m1, d, h1, x1, R1, r, p1⟩ => by
    unfold negD at p1
    split at p1
    · cases r
      exact ⟨_, rfl, p_int R1 p1⟩
    · exact p1.elim⟩
end

/-! ### calls of built-ins -/
def Vcall (K : KW) (r : List V → Hp → VK → Prop) (g : List D → Hst → Res D) : Prop := ∀ (W : WX) (m : List Addr) (H : Hp) (h : Hst) (ds : List D) (vs : List V) (σ : L2.St) (Q : VK), RH K m H h → RDs K m H ds vs → Po K W (RD K) m H σ (g ds h) Q → r vs H Q
def vCall (g : List D → Hst → Res D) (f : Evs) : Ev := fun en h => (f en h).bind fun ds h1 => g ds h1
section
variable {X : Cx} {W : WX} {e : Expr} {es : List Expr} {p pos : Pos} {x : Str} {id T : String} {r : List V → Hp → VK → Prop} {g : List D → Hst → Res D} {f : Evs}
theorem rd_call {K : KW} (hg : Vcall K r g) : ∀ σ H Q, RdE K W (vCall g f) σ H Q → tCB r (RdA K W f) σ H Q := by
  rintro σ H Q ⟨m, en, h, R, E, p⟩
  exact ⟨m, en, h, R, E, Po.imp (Po.bind (rel := RDs K) p) fun xs H1 ⟨m1, ds, h1, x1, R1, rs, p1⟩ => hg W m1 H1 h1 ds xs σ Q R1 rs p1⟩
theorem se_callB (hc : CallR X (.builtin id) r) (hv : Vcall X.Kw r g) (hg : Gl X x) (hm : X.mg x = none) (ha : SA X W (e :: es) f) (hb : bootBuiltins x = some (.builtin id) := by decide +kernel) (hn : x ≠ "__name__" := by decide) (hdb : (x == ("__debug__" : Str)) = false := by decide)
    (he : starEach (e :: es) X.env = (false, eval e X.env) :: starEach es X.env := by rfl) (hpl : (backTo pos (starEach es X.env)).any (·.1) = false := by rfl) : SE X W (.Call (.Name x p) (e :: es) [] pos) (vCall g f) :=
  viaE (pe_callB hc hg hm hb ha hn hdb he hpl) (rd_call hv)
theorem se_callT (hc : CallR X (.type T) r) (hv : Vcall X.Kw r g) (hg : Gl X x) (hm : X.mg x = none) (ha : SA X W (e :: es) f) (hb : bootBuiltins x = some (.type T) := by decide +kernel) (hn : x ≠ "__name__" := by decide) (hdb : (x == ("__debug__" : Str)) = false := by decide)
    (he : starEach (e :: es) X.env = (false, eval e X.env) :: starEach es X.env := by rfl) (hpl : (backTo pos (starEach es X.env)).any (·.1) = false := by rfl) : SE X W (.Call (.Name x p) (e :: es) [] pos) (vCall g f) :=
  viaE (pe_callTy hc hg hm hb ha hn hdb he hpl) (rd_call hv)
end
section
variable {K : KW}
def lenD (ds : List D) (h : Hst) : Res D := match ds with
  | [.str s] => .ok (.int s.length) h
  | [.tup xs] => .ok (.int xs.length) h
  | [.sl xs] => .ok (.int xs.length) h
  | [.ref n] => match h[n]? with
    | some (.lst xs) => .ok (.int xs.length) h
    | some (.dic false kvs) => .ok (.int kvs.length) h
    | _ => .bad
  | _ => .bad
def rLenM (K : KW) : List V → Hp → VK → Prop := fun xs H Q => (∃ x n, xs = [x] ∧ LenV K x H n ∧ Q (.int n) H) ∨ ∃ a kvs, xs = [.ref a] ∧ H a = some (.dK kvs) ∧ Q (.int kvs.length) H
theorem call_lenM {X : Cx} : CallR X (.builtin "len") (rLenM X.Kw) := call_len.or (by
  intro pins s σ H xs us Q I r h
  obtain ⟨a, kvs, rfl, e, q⟩ := h
  rw [Vals.ref1 r]
  exact d_len I (.inl e) fun t s' I' => ⟨.int kvs.length, H, I', ⟨t, rfl⟩, q⟩)
theorem vc_len : Vcall K (rLenM K) lenD := by
  intro W m H h ds vs σ Q R rs p
  unfold lenD at p
  split at p
  · cases rs with
    | cons r rs => cases rs; cases r with
      | str b => exact .inl ⟨_, _, rfl, ⟨by rw [str_len]; exact b.len, rfl⟩, by rw [str_len]; exact p_int R p⟩
  · cases rs with
    | cons r rs => cases rs; cases r with
      | tup l q r => exact .inl ⟨_, _, rfl, .inr ⟨_, .of q, rfl⟩, by rw [← r.length]; exact p_int R p⟩
  · cases rs with
    | cons r rs => cases rs; cases r with
      | sl l q r => exact .inl ⟨_, _, rfl, .inl ⟨_, q.seq, rfl⟩, by rw [← r.length]; exact p_int R p⟩
  · cases rs with
    | cons r rs => cases rs; cases r with
      | ref ha =>
        split at p
        · rename_i he
          obtain ⟨_, vs, q, r⟩ := R.look ha he
          exact .inl ⟨_, _, rfl, .inl ⟨_, .of q, rfl⟩, by rw [← r.length]; exact p_int R p⟩
        · rename_i he
          obtain ⟨ws, q, r⟩ := R.look ha he
          exact .inr ⟨_, _, rfl, q, by rw [← r.length]; exact p_int R p⟩
        · exact p.elim
  · exact p.elim
def absD (ds : List D) (h : Hst) : Res D := match ds with
  | [.int i] => .ok (.int (if i < 0 then -i else i)) h
  | _ => .bad
theorem vc_abs : Vcall K (fun xs H Q => ∃ i, xs = [.int i] ∧ Q (.int (if i < 0 then -i else i)) H) absD := by
  intro W m H h ds vs σ Q R rs p
  unfold absD at p
  split at p
  · cases rs with
    | cons r rs => cases rs; cases r; exact ⟨_, rfl, p_int R p⟩
  · exact p.elim
def intC (ds : List D) (h : Hst) : Res D := match ds with
  | [.int i] => .ok (.int i) h
  | [.bl k] => .ok (.int (if k then 1 else 0)) h
  | _ => .bad
theorem vc_int : Vcall K (fun xs H Q => (∃ i, xs = [.int i] ∧ Q (.int i) H) ∨ ∃ k, xs = [.bl k] ∧ Q (.int (if k then 1 else 0)) H) intC := by
  intro W m H h ds vs σ Q R rs p
  unfold intC at p
  split at p
  · cases rs with
    | cons r rs => cases rs; cases r; exact .inl ⟨_, rfl, p_int R p⟩
  · cases rs with
    | cons r rs => cases rs; cases r; exact .inr ⟨_, rfl, p_int R p⟩
  · exact p.elim
/-- the signs of a number -/
def decI (i : Int) : List Nat := (toString i).toList.map Char.toNat
theorem decI_str (i : Int) : ((toString i : String) : Str) = ⟨(decI i).toArray⟩ := by
  show Str.ofString _ = _
  rw [Str.ofString_eq_toList]; rfl
theorem char_lt (c : Char) : c.toNat < 1114112 := by
  have h := c.valid
  simp only [UInt32.isValidChar, Nat.isValidChar] at h
  show c.val.toNat < _
  omega
theorem digs_len : ∀ (fuel n k : Nat) (ds : List Char), n < 10 ^ (k + 1) → (Nat.toDigitsCore 10 fuel n ds).length ≤ ds.length + (k + 1)
  | 0, n, k, ds, _ => by simp [Nat.toDigitsCore]
  | fuel + 1, n, k, ds, h => by
    unfold Nat.toDigitsCore
    dsimp only
    split
    · rw [List.length_cons]; omega
    · rename_i hz
      cases k with
      | zero =>
        have : n / 10 = 0 := by simp at h; omega
        exact absurd this hz
      | succ k =>
        have h2 : n / 10 < 10 ^ (k + 1) := by
          rw [Nat.pow_succ] at h
          omega
        have := digs_len fuel (n / 10) k (Nat.digitChar (n % 10) :: ds) h2
        rw [List.length_cons] at this
        omega
/-- the signs of a number are few -/
theorem decI_len {i : Int} (h : i.natAbs < 10 ^ 60) : (decI i).length ≤ 62 := by
  unfold decI
  rw [List.length_map]
  have g : ∀ n : Nat, n < 10 ^ 60 → (Nat.repr n).toList.length ≤ 60 := by
    intro n hn
    show (String.ofList (Nat.toDigits 10 n)).toList.length ≤ 60
    rw [String.toList_ofList]
    have := digs_len (n + 1) n 59 [] hn
    simpa [Nat.toDigits] using this
  cases i with
  | ofNat n =>
    have := g n (by simpa using h)
    show (Nat.repr n).toList.length ≤ 62
    omega
  | negSucc n =>
    have := g (n + 1) (by simpa using h)
    show ("-" ++ Nat.repr (n + 1)).toList.length ≤ 62
    rw [String.toList_append, List.length_append]
    have e : ("-" : String).toList.length = 1 := by decide
    omega
def strC (ds : List D) (h : Hst) : Res D := match ds with
  | [.int i] => if i.natAbs < 1000000000000000000000000000000000000000000000000000000000000 then .ok (.str (decI i)) h else .bad
  | _ => .bad
theorem log_small {n : Nat} (h : n < 10 ^ 60) : n.log2 < 1920 := by
  by_cases z : n = 0
  · subst z; decide
  · exact Nat.lt_trans ((Nat.log2_lt z).mpr (Nat.lt_trans h (by decide : 10 ^ 60 < 2 ^ 200))) (by decide)
theorem vc_str : Vcall K (fun xs H Q => ∃ i, xs = [.int i] ∧ i.natAbs.log2 < 1920 ∧ Q (.str (toString i)) H) strC := by
  intro W m H h ds vs σ Q R rs p
  unfold strC at p
  split at p
  · rename_i i
    obtain ⟨hc, p⟩ := p_if p
    cases rs with
    | cons r rs =>
      cases rs; cases r
      refine ⟨_, rfl, log_small hc, ?_⟩
      rw [decI_str]
      have hl := decI_len hc
      refine po_ok p R (.str ⟨by rw [sl_eq]; omega, fun c hm => ?_⟩)
      obtain ⟨d, _, rfl⟩ := List.mem_map.mp hm
      exact char_lt d
  · exact p.elim
def listC (ds : List D) (h : Hst) : Res D := match ds with
  | [.tup xs] => .ok (.ref h.length) (h ++ [.lst xs])
  | [.sl xs] => .ok (.ref h.length) (h ++ [.lst xs])
  | [.ref n] => match h[n]? with
    | some (.lst xs) => .ok (.ref h.length) (h ++ [.lst xs])
    | _ => .bad
  | _ => .bad
theorem vc_list : Vcall K (fun xs H Q => ∃ p ys, xs = [.ref p] ∧ (SqL K H p ys ∨ SqT K H p ys) ∧ ∀ l, H l = none → Q (.ref l) (upd H l (.lst ys))) listC := by
  intro W m H h ds vs σ Q R rs p
  unfold listC at p
  split at p
  · cases rs with
    | cons r rs => cases rs; cases r with
      | tup l q r => exact ⟨_, _, rfl, .inr (.of q), new_lst R r (by rw [← sl_eq]; exact l) p⟩
  · cases rs with
    | cons r rs => cases rs; cases r with
      | sl l q r => exact ⟨_, _, rfl, .inl q.seq, new_lst R r (by rw [← sl_eq]; exact l) p⟩
  · cases rs with
    | cons r rs => cases rs; cases r with
      | ref ha =>
        split at p
        · rename_i he
          obtain ⟨l, vs, q, r⟩ := R.look ha he
          exact ⟨_, _, rfl, .inl (.of q), new_lst R r (by rw [← sl_eq]; exact l) p⟩
        · exact p.elim
  · exact p.elim
def tupC (ds : List D) (h : Hst) : Res D := match ds with
  | [.tup xs] => .ok (.tup xs) h
  | [.sl xs] => .ok (.tup xs) h
  | [.ref n] => match h[n]? with
    | some (.lst xs) => .ok (.tup xs) h
    | _ => .bad
  | _ => .bad
theorem vc_tup : Vcall K (fun xs H Q => ∃ p ys, xs = [.ref p] ∧ ((SqL K H p ys ∧ ∀ l, H l = none → Q (.ref l) (upd H l (.tup ys))) ∨ (SqT K H p ys ∧ Q (.ref p) H))) tupC := by
  intro W m H h ds vs σ Q R rs p
  unfold tupC at p
  split at p
  · cases rs with
    | cons r rs => cases rs; cases r with
      | tup l q r => exact ⟨_, _, rfl, .inr ⟨.of q, po_ok p R (.tup l q r)⟩⟩
  · cases rs with
    | cons r rs => cases rs; cases r with
      | sl l q r => exact ⟨_, _, rfl, .inl ⟨q.seq, new_tup R r (by rw [← sl_eq]; exact l) p⟩⟩
  · cases rs with
    | cons r rs => cases rs; cases r with
      | ref ha =>
        split at p
        · rename_i he
          obtain ⟨l, vs, q, r⟩ := R.look ha he
          exact ⟨_, _, rfl, .inl ⟨.of q, new_tup R r (by rw [← sl_eq]; exact l) p⟩⟩
        · exact p.elim
  · exact p.elim
end

/-! ### isinstance with built-in types -/
inductive PT where
  | non | bool | int | str | list | tuple | dict
  deriving DecidableEq
def PT.nm : PT → String
  | .non => "NoneType" | .bool => "bool" | .int => "int" | .str => "str" | .list => "list" | .tuple => "tuple" | .dict => "dict"
def tyD (x : D) (h : Hst) : Option PT := match x with
  | .non => some .non | .bl _ => some .bool | .int _ => some .int | .str _ => some .str | .tup _ => some .tuple | .sl _ => some .list
  | .ref n => match h[n]? with
    | some (.lst _) => some .list
    | some (.dic _ _) => some .dict
    | _ => none
  | .exc _ _ _ => none
def isTy (t T : PT) : Bool := decide (t = T) || (decide (t = .bool) && decide (T = .int))
theorem kit_isTy {K : KW} (t T : PT) : PySem.W.kitOne K (.type t.nm) (.type T.nm) = some (isTy t T) := by
  cases t <;> cases T <;> exact kit_ty (by decide +kernel)
theorem SqI.ty {K : KW} {H : Hp} {a : Addr} {xs : List V} (h : SqI K H a xs) : TyX K H (.ref a) (.type "list") := by
  rcases h with ⟨o, h⟩ | ⟨o, its, n, h1, h2, _⟩
  · exact .base (.frz h)
  · exact .kList h1 h2
theorem tyD_ok {K : KW} {m : List Addr} {H : Hp} {h : Hst} {x : D} {v : V} {t : PT} (R : RH K m H h) (r : RD K m H x v) (e : tyD x h = some t) : TyX K H v (.type t.nm) := by
  cases r with
  | exc => cases e
  | non => cases e; exact .base .non
  | bl b => cases e; exact .base (.bl b)
  | int i => cases e; exact .base (.int i)
  | str b => cases e; exact .base (.str _)
  | tup l q r => cases e; exact .base (.tup q)
  | sl l q r => cases e; exact q.ty
  | ref ha =>
    unfold tyD at e
    dsimp only at e
    split at e
    · rename_i he
      cases e
      obtain ⟨_, vs, q, _⟩ := R.look ha he
      exact .base (.lst q)
    · rename_i tk kvs he
      cases e
      cases tk with
      | false => obtain ⟨ws, q, _⟩ := R.look ha he; exact .base (.dK q)
      | true => obtain ⟨ws, q, _⟩ := R.look ha he; exact .base (.dT q)
    · cases e
def vIsi (Ts : List PT) (f : Ev) : Ev := fun en h => (f en h).bind fun x h1 => match tyD x h1 with
  | some t => .ok (.bl (Ts.any fun T => isTy t T)) h1
  | none => .bad
section
variable {X : Cx} {W : WX} {e : Expr} {p pos : Pos}
theorem pa_ty {x : Str} {T : PT} {p : Pos} {es : List Expr} {t : TA} (hg : Gl X x) (hm : X.mg x = none) (hb : bootBuiltins x = some (.type T.nm) := by decide +kernel) (hr : PA X es t) (hn : x ≠ "__name__" := by decide) (hd : (x == ("__debug__" : Str)) = false := by decide)
    (hs : starEach (.Name x p :: es) X.env = (false, eval (.Name x p) X.env) :: starEach es X.env := by rfl) : PA X (.Name x p :: es) (tCons (tC (.ty T.nm)) t) :=
  pa_cons (pe_bltn (v := .ty T.nm) hg hm hb rfl hn hd) hr hs
theorem se_isi (T : PT) {x : Str} {f : Ev} {p2 : Pos} (hg : Gl X "isinstance") (hm : X.mg "isinstance" = none) (ha : SE X W e f) (hgT : Gl X x) (hmT : X.mg x = none) (hb : bootBuiltins x = some (.type T.nm) := by decide +kernel) (hn : x ≠ "__name__" := by decide) (hd : (x == ("__debug__" : Str)) = false := by decide)
    (he : starEach (e :: [.Name x p2]) X.env = (false, eval e X.env) :: starEach [.Name x p2] X.env := by rfl) (hs : starEach [.Name x p2] X.env = (false, eval (.Name x p2) X.env) :: starEach [] X.env := by rfl) (hpl : (backTo pos (starEach [.Name x p2] X.env)).any (·.1) = false := by rfl) :
    SE X W (.Call (.Name "isinstance" p) [e, .Name x p2] [] pos) (vIsi [T] f) :=
  viaE (pe_callB call_isi hg hm (by decide +kernel) (pa_cons ha (pa_ty (T := T) hgT hmT hb pa_nil hn hd hs) he) (by decide) (by decide) he hpl) fun σ H Q ⟨m, en, h, R, E, p⟩ => ⟨m, en, h, R, E, Po.imp (Po.bind (rel := RD X.Kw) p) fun v H1 ⟨m1, d, h1, x1, R1, r, p1⟩ => by
    split at p1
    · rename_i t et
      refine ⟨v, .ty T.nm, _, _, _, rfl, .ty _, tyD_ok R1 r et, kit_isTy (K := X.Kw) t T, ?_⟩
      simpa using p_bl R1 p1
    · exact p1.elim⟩
theorem se_isi2 (T U : PT) {x y : Str} {f : Ev} {p2 p3 p4 : Pos} {k : Nat} (hg : Gl X "isinstance") (hm : X.mg "isinstance" = none) (ha : SE X W e f) (hgT : Gl X x) (hmT : X.mg x = none) (hgU : Gl X y) (hmU : X.mg y = none) (hb : bootBuiltins x = some (.type T.nm) := by decide +kernel) (hb2 : bootBuiltins y = some (.type U.nm) := by decide +kernel)
    (hn : x ≠ "__name__" := by decide) (hd : (x == ("__debug__" : Str)) = false := by decide) (hn2 : y ≠ "__name__" := by decide) (hd2 : (y == ("__debug__" : Str)) = false := by decide)
    (he : starEach (e :: [.Tuple [.Name x p2, .Name y p3] k p4]) X.env = (false, eval e X.env) :: starEach [.Tuple [.Name x p2, .Name y p3] k p4] X.env := by rfl)
    (ht : starEach [.Tuple [.Name x p2, .Name y p3] k p4] X.env = (false, eval (.Tuple [.Name x p2, .Name y p3] k p4) X.env) :: starEach [] X.env := by rfl)
    (hs : starEach [.Name x p2, .Name y p3] X.env = (false, eval (.Name x p2) X.env) :: starEach [.Name y p3] X.env := by rfl) (hs2 : starEach [.Name y p3] X.env = (false, eval (.Name y p3) X.env) :: starEach [] X.env := by rfl)
    (hpl : (backTo pos (starEach [.Tuple [.Name x p2, .Name y p3] k p4] X.env)).any (·.1) = false := by rfl) :
    SE X W (.Call (.Name "isinstance" p) [e, .Tuple [.Name x p2, .Name y p3] k p4] [] pos) (vIsi [T, U] f) :=
  viaE (pe_callB call_isiT hg hm (by decide +kernel) (pa_cons ha (pa_cons (pe_tup (pa_ty (T := T) hgT hmT hb (pa_ty (T := U) hgU hmU hb2 pa_nil hn2 hd2 hs2) hn hd hs)) pa_nil ht) he) (by decide) (by decide) he hpl) fun σ H Q ⟨m, en, h, R, E, p⟩ => ⟨m, en, h, R, E, Po.imp (Po.bind (rel := RD X.Kw) p) fun v H1 ⟨m1, d, h1, x1, R1, r, p1⟩ => by
    split at p1
    · rename_i t et
      refine ⟨by show 2 ≤ sizeLine; rw [sl_eq]; decide, fun q hq => ?_⟩
      have xt : Ext X.Kw m1 H1 m1 (upd H1 q (.tup [.ty T.nm, .ty U.nm])) := Ext.fresh hq
      refine ⟨v, q, _, _, _, _, rfl, upd_same, .cons (.ty _) (.cons (.ty _) .nil), tyD_ok (R1.laid hq) (r.mono xt) et, kitAny_cons (b := isTy t T) (r := isTy t T || isTy t U) (kit_isTy (K := X.Kw) t T) (fun z => kitAny_cons (b := isTy t U) (kit_isTy (K := X.Kw) t U) (fun z2 => ?_) fun z2 => ?_) fun z => ?_, ?_⟩
      · rw [z, z2]; rfl
      · rw [z, z2]; rfl
      · rw [z]; rfl
      · have := p_bl (R1.laid hq) (Po.mono xt p1)
        simpa using this
    · exact p1.elim⟩
end
end Mi

namespace Mi
open PySem PySem.Spec PyProof.Rows L2

/-! ### methods of built-in types -/
def Vmth (K : KW) (r : V → List V → Hp → VK → Prop) (g : D → List D → Hst → Res D) : Prop := ∀ (W : WX) (m : List Addr) (H : Hp) (h : Hst) (d : D) (v : V) (ds : List D) (vs : List V) (σ : L2.St) (Q : VK), RH K m H h → RD K m H d v → RDs K m H ds vs → Po K W (RD K) m H σ (g d ds h) Q → r v vs H Q
def vM (T : PT) (g : D → List D → Hst → Res D) (fo : Ev) (fa : Evs) : Ev := fun en h => (fo en h).bind fun x h1 => if tyD x h1 = some T then (fa en h1).bind fun ds h2 => g x ds h2 else .bad
section
variable {K : KW} {m : List Addr} {H : Hp} {h : Hst} {W : WX}
theorem tyV_list {x : D} {v : V} (R : RH K m H h) (r : RD K m H x v) (e : tyD x h = some .list) : tyV K "list" v H := by
  cases r with
  | sl l q r => exact .inl ⟨rfl, _, q.seq⟩
  | ref ha =>
    unfold tyD at e
    dsimp only at e
    split at e
    · rename_i he
      obtain ⟨_, vs, q, _⟩ := R.look ha he
      exact .inl ⟨rfl, vs, .of q⟩
    · cases e
    · cases e
  | _ => cases e
theorem tyV_str {x : D} {v : V} (R : RH K m H h) (r : RD K m H x v) (e : tyD x h = some .str) : tyV K "str" v H := by
  cases r with
  | str b => rfl
  | ref ha =>
    unfold tyD at e
    dsimp only at e
    split at e <;> cases e
  | _ => cases e
theorem wr_lst {n : Nat} {a : Addr} {xs : List D} {vs : List V} {σ : L2.St} {Q : VK} {d : D} {v : V} (R : RH K m H h) (ha : m[n]? = some a) (he : ∃ ys, h[n]? = some (.lst ys)) (rs : RDs K m H xs vs) (hl : xs.length ≤ 16777216) (r : RD K m H d v)
    (p : Po K W (RD K) m H σ (.ok d (h.set n (.lst xs))) Q) : Q v (upd H a (.lst vs)) := by
  have hn : n < h.length := by rw [← R.len]; exact (List.getElem?_eq_some_iff.mp ha).1
  have mu : Mut (H a) := by obtain ⟨ys, he⟩ := he; obtain ⟨u, q, z⟩ := (R.look ha he).mut fun _ _ z => nomatch z; rw [q]; exact z
  have x : Ext K m H m (upd H a (.lst vs)) := Ext.write ha mu
  exact p m _ _ x (R.write ha mu ⟨by rw [sl_eq]; exact hl, vs, upd_same, rs.mono x⟩) (r.mono x)
def appendM (x : D) (ds : List D) (h : Hst) : Res D := match x, ds with
  | .ref n, [d] => match h[n]? with
    | some (.lst xs) => if xs.length < 16777216 then .ok .non (h.set n (.lst (xs ++ [d]))) else .bad
    | _ => .bad
  | _, _ => .bad
theorem vm_append : Vmth K rAppend appendM := by
  intro W m H h d v ds vs σ Q R r rs p
  unfold appendM at p
  split at p
  · cases r with
    | ref ha =>
      cases rs with
      | cons q rs =>
        cases rs
        split at p
        · rename_i he
          obtain ⟨hl, p⟩ := p_if p
          obtain ⟨_, ws, e, r⟩ := R.look ha he
          exact ⟨_, _, _, rfl, rfl, e, by rw [← r.length, sl_eq]; exact hl, wr_lst R ha ⟨_, by assumption⟩ (r.append (.one q)) (by simp; omega) .non p⟩
        · exact p.elim
  · exact p.elim
def extendM (x : D) (ds : List D) (h : Hst) : Res D := match x, ds with
  | .ref n, [.ref k] => match h[n]?, h[k]? with
    | some (.lst xs), some (.lst ys) => if xs.length + ys.length ≤ 16777216 then .ok .non (h.set n (.lst (xs ++ ys))) else .bad
    | _, _ => .bad
  | _, _ => .bad
theorem vm_extend : Vmth K rExtend extendM := by
  intro W m H h d v ds vs σ Q R r rs p
  unfold extendM at p
  split at p
  · cases r with
    | ref ha =>
      cases rs with
      | cons q rs =>
        cases rs
        cases q with
        | ref hb =>
          split at p
          · rename_i e1 e2
            obtain ⟨hl, p⟩ := p_if p
            obtain ⟨_, ws, e, r⟩ := R.look ha e1
            obtain ⟨_, us, e', r'⟩ := R.look hb e2
            exact ⟨_, _, _, _, rfl, rfl, e, e', by rw [← r.length, ← r'.length, sl_eq]; exact hl, wr_lst R ha ⟨_, by assumption⟩ (r.append r') (by simp; omega) .non p⟩
          · exact p.elim
  · exact p.elim
def popM (x : D) (ds : List D) (h : Hst) : Res D := match x, ds with
  | .ref n, [] => match h[n]? with
    | some (.lst xs) => match xs[xs.length - 1]? with
      | some d => .ok d (h.set n (.lst xs.dropLast))
      | none => .bad
    | _ => .bad
  | .ref n, [.int i] => match h[n]? with
    | some (.lst xs) => match ixN xs.length i with
      | some k => match xs[k]? with
        | some d => .ok d (h.set n (.lst (xs.eraseIdx k)))
        | none => .bad
      | none => .bad
    | _ => .bad
  | _, _ => .bad
theorem vm_pop : Vmth K (fun x vs H Q => rPop x vs H Q ∨ rPopAt x vs H Q) popM := by
  intro W m H h d v ds vs σ Q R r rs p
  unfold popM at p
  split at p
  · cases r with
    | ref ha =>
      cases rs
      split at p
      · rename_i he
        split at p
        · rename_i d hd
          obtain ⟨l, ws, e, r⟩ := R.look ha he
          obtain ⟨w, hw, rw'⟩ := r.get hd
          exact .inl ⟨_, _, w, rfl, rfl, e, by rw [← r.length]; exact hw, wr_lst R ha ⟨_, by assumption⟩ r.dropLast (by rw [← sl_eq]; exact Nat.le_trans (by simp) l) rw' p⟩
        · exact p.elim
      · exact p.elim
  · cases r with
    | ref ha =>
      cases rs with
      | cons q rs =>
        cases rs
        cases q
        split at p
        · rename_i he
          split at p
          · rename_i k hk
            split at p
            · rename_i d hd
              obtain ⟨l, ws, e, r⟩ := R.look ha he
              obtain ⟨w, hw, rw'⟩ := r.get hd
              obtain ⟨h1, h2, h3, h4⟩ := ixN_seq hk
              have hs := sl_eq
              exact .inr ⟨_, _, _, k, w, rfl, rfl, e, by omega, by omega, by rw [← r.length]; exact h1, hw, wr_lst R ha ⟨_, by assumption⟩ (r.eraseIdx k) (Nat.le_trans (len_erase _ _) (by rw [← sl_eq]; exact l)) rw' p⟩
            · exact p.elim
          · exact p.elim
        · exact p.elim
  · exact p.elim
/-- the first place of an equal item -/
def firstIx (x : D) : List D → Option Nat
  | [] => none
  | y :: ys => if eqF y x = true then some 0 else match firstIx x ys with
    | some j => some (j + 1)
    | none => none
def firstPy (p : PyData) : List PyData → Option Nat
  | [] => none
  | q :: ps => if PyData.eqv q p = true then some 0 else match firstPy p ps with
    | some j => some (j + 1)
    | none => none
def indexM (x : D) (ds : List D) (h : Hst) : Res D := match ds with
  | [d] => match (match x with
      | .sl xs => some xs
      | .ref n => match h[n]? with
        | some (.lst xs) => some xs
        | _ => none
      | _ => none) with
    | some xs => if flatD d = true ∧ xs.all flatD = true then match firstIx d xs with
        | some j => .ok (.int j) h
        | none => .bad
      else match toPy h 64 d, toPy h 64 x with
        | some p, some (.list ps) => if p.depth ≤ 64 ∧ (PyData.list ps).depth ≤ 64 then match firstPy p ps with
            | some j => .ok (.int j) h
            | none => .bad
          else .bad
        | _, _ => .bad
    | none => .bad
  | _ => .bad
theorem firstPy_ok {p : PyData} : ∀ {ps : List PyData} {j : Nat}, firstPy p ps = some j → ∃ z, ps[j]? = some z ∧ PyData.eqv z p = true ∧ ∀ (i : Nat) (z' : PyData), i < j → ps[i]? = some z' → PyData.eqv z' p = false
  | [], _, e => by cases e
  | q :: ps, j, e => by
    unfold firstPy at e
    split at e
    · rename_i he
      cases e
      exact ⟨_, rfl, he, fun i z' hi => absurd hi (Nat.not_lt_zero _)⟩
    · rename_i he
      split at e
      · rename_i j' hj
        cases e
        obtain ⟨z, h1, h2, h3⟩ := firstPy_ok hj
        refine ⟨z, by simpa using h1, h2, fun i z' hi hz => ?_⟩
        cases i with
        | zero =>
          simp at hz
          subst hz
          simpa using he
        | succ i => exact h3 i z' (by omega) (by simpa using hz)
      · cases e
theorem firstIx_ok {d : D} {v : V} (r : RD K m H d v) (f : flatD d = true) : ∀ {xs : List D} {vs : List V} {j : Nat}, RDs K m H xs vs → xs.all flatD = true → firstIx d xs = some j → ∃ z, vs[j]? = some z ∧ eqV z v = true ∧ ∀ (i : Nat) (z' : V), i < j → vs[i]? = some z' → eqV z' v = false
  | _, _, _, .nil, _, e => by cases e
  | _, _, j, .cons q rs, g, e => by
    rw [List.all_cons, Bool.and_eq_true] at g
    have e0 := eqF_rel q r g.1 f
    unfold firstIx at e
    split at e
    · rename_i he
      cases e
      exact ⟨_, rfl, by rw [e0]; exact he, fun i z' hi => absurd hi (Nat.not_lt_zero _)⟩
    · rename_i he
      split at e
      · rename_i j' hj
        cases e
        obtain ⟨z, h1, h2, h3⟩ := firstIx_ok r f rs g.2 hj
        refine ⟨z, by simpa using h1, h2, fun i z' hi hz => ?_⟩
        cases i with
        | zero =>
          simp at hz
          subst hz
          rw [e0]
          simpa using he
        | succ i => exact h3 i z' (by omega) (by simpa using hz)
      · cases e
theorem vm_index : Vmth K (fun x xs H Q => rIndex K.K x xs H Q ∨ rIndexD K.K x xs H Q) indexM := by
  intro W m H h d v ds vs σ Q R r rs p
  have go : ∀ {xs : List D} {ws : List V} {a : Addr} {y : D} {u : V}, v = .ref a → SqL K H a ws → RDs K m H xs ws → RD K m H y u → vs = [u] →
      Po K W (RD K) m H σ (if flatD y = true ∧ xs.all flatD = true then match firstIx y xs with
        | some j => .ok (.int j) h
        | none => .bad
      else match toPy h 64 y, toPy h 64 d with
        | some p, some (.list ps) => if p.depth ≤ 64 ∧ (PyData.list ps).depth ≤ 64 then match firstPy p ps with
            | some j => .ok (.int j) h
            | none => .bad
          else .bad
        | _, _ => .bad) Q → rIndex K v vs H Q ∨ rIndexD K.K v vs H Q := by
    intro xs ws a y u ev hs rr ry evs p
    split at p
    · rename_i hf
      split at p
      · rename_i j hj
        obtain ⟨z, h1, h2, h3⟩ := firstIx_ok ry hf.1 rr hf.2 hj
        exact .inl ⟨a, ws, u, j, z, ev, evs, hs, flat_rel ry hf.1, flats_rel rr hf.2, h1, h2, h3, p_int R p⟩
      · exact p.elim
    · split at p
      · rename_i q ps e1 e2
        obtain ⟨hd, p⟩ := p_if p
        split at p
        · rename_i j hj
          obtain ⟨a1, b1⟩ := toPy_ok R 64 _ _ _ ry e1
          obtain ⟨a2, b2⟩ := toPy_ok R 64 _ _ _ r e2
          obtain ⟨z, h1, h2, h3⟩ := firstPy_ok hj
          exact .inr ⟨a, u, q, ps, j, z, ev, evs, by rw [← ev]; exact a2, a1, by simp [SeqAt.shaped, b2, hd.2], by simp [SeqAt.shaped, b1, hd.1], h1, h2, h3, p_int R p⟩
        · exact p.elim
      · exact p.elim
  unfold indexM at p
  split at p
  · cases rs with
    | cons q rs =>
      cases rs
      cases r with
      | sl l s rr => exact go rfl s.seq rr q rfl p
      | ref ha =>
        dsimp only at p
        split at p
        · rename_i xs he
          split at he
          · rename_i ys hy
            cases he
            obtain ⟨_, ws, e, rr⟩ := R.look ha hy
            exact go rfl (.of e) rr q rfl p
          · cases he
        · exact p.elim
      | _ => exact p.elim
  · exact p.elim
end
section
variable {X : Cx} {W : WX} {o e : Expr} {es : List Expr} {name : Str} {apos cpos : Pos} {id : String} {T : PT} {r : V → List V → Hp → VK → Prop} {g : D → List D → Hst → Res D} {fo : Ev} {fa : Evs}
theorem se_bm (hT : ∀ {K : KW} {m : List Addr} {H : Hp} {h : Hst} {x : D} {v : V}, RH K m H h → RD K m H x v → tyD x h = some T → tyV K T.nm v H) (pa : PlainAttrs T.nm) (slot : Slot T.nm name id) (hty : typeOf (.builtin id) = pure (.type "method_descriptor")) (hm : MtR X id r) (hv : Vmth X.Kw r g) (ho : SE X W o fo) (ha : SA X W (e :: es) fa)
    (hbase : attributeBase o name X.env (eval o X.env) = eval o X.env := by rfl)
    (hfew : ((backTo cpos (starEach (e :: es) X.env)).all (fun x => !x.1) && (backToKw cpos (keywordEach [] X.env)).all (fun x => x.1.isSome)
      && decide ((e :: es).length + ([] : List Keyword).length + (if ([] : List Keyword).isEmpty then 0 else 1) < 30)) = true := by rfl)
    (hline : (apos.endLine == cpos.line) = true := by rfl) (hs : starEach (e :: es) X.env = (false, eval e X.env) :: starEach es X.env := by rfl) (hplain : (backTo cpos (starEach es X.env)).any (·.1) = false := by rfl) :
    SE X W (.Call (.Attribute o name apos) (e :: es) [] cpos) (vM T g fo fa) :=
  viaE (pe_bm pa slot hty hm ho ha hbase hfew hline hs hplain) fun σ H Q ⟨m, en, h, R, E, p⟩ => ⟨m, en, h, R, E, Po.imp (Po.bind (rel := RD X.Kw) p) fun x H1 ⟨m1, d, h1, x1, R1, rd, p1⟩ => by
    obtain ⟨ht, p1⟩ := p_if p1
    exact ⟨hT R1 rd ht, m1, en, h1, R1, E.mono x1, Po.imp (Po.bind (rel := RDs X.Kw) p1) fun xs H2 ⟨m2, ds, h2, x2, R2, rs, p2⟩ => hv W m2 H2 h2 d x ds xs σ Q R2 (rd.mono x2) rs p2⟩⟩
theorem se_bm0 (hT : ∀ {K : KW} {m : List Addr} {H : Hp} {h : Hst} {x : D} {v : V}, RH K m H h → RD K m H x v → tyD x h = some T → tyV K T.nm v H) (pa : PlainAttrs T.nm) (slot : Slot T.nm name id) (hty : typeOf (.builtin id) = pure (.type "method_descriptor")) (hm : MtR X id r) (hv : Vmth X.Kw r g) (ho : SE X W o fo)
    (hbase : attributeBase o name X.env (eval o X.env) = eval o X.env := by rfl) (hline : (apos.endLine == cpos.line) = true := by rfl) :
    SE X W (.Call (.Attribute o name apos) [] [] cpos) (vM T g fo aNil) :=
  viaE (pe_bm0 pa slot hty hm ho hbase hline) fun σ H Q ⟨m, en, h, R, E, p⟩ => ⟨m, en, h, R, E, Po.imp (Po.bind (rel := RD X.Kw) p) fun x H1 ⟨m1, d, h1, x1, R1, rd, p1⟩ => by
    obtain ⟨ht, p1⟩ := p_if p1
    exact ⟨hT R1 rd ht, hv W m1 H1 h1 d x [] [] σ Q R1 rd .nil p1⟩⟩
theorem se_append (ho : SE X W o fo) (ha : SA X W (e :: es) fa) (hbase : attributeBase o "append" X.env (eval o X.env) = eval o X.env := by rfl)
    (hfew : ((backTo cpos (starEach (e :: es) X.env)).all (fun x => !x.1) && (backToKw cpos (keywordEach [] X.env)).all (fun x => x.1.isSome)
      && decide ((e :: es).length + ([] : List Keyword).length + (if ([] : List Keyword).isEmpty then 0 else 1) < 30)) = true := by rfl)
    (hline : (apos.endLine == cpos.line) = true := by rfl) (hs : starEach (e :: es) X.env = (false, eval e X.env) :: starEach es X.env := by rfl) (hplain : (backTo cpos (starEach es X.env)).any (·.1) = false := by rfl) :
    SE X W (.Call (.Attribute o "append" apos) (e :: es) [] cpos) (vM .list appendM fo fa) :=
  se_bm (T := .list) tyV_list PySem.F.plainAttrs_list PySem.F.slot_list_append PySem.F.type_list_append mt_append vm_append ho ha hbase hfew hline hs hplain
theorem se_extend (ho : SE X W o fo) (ha : SA X W (e :: es) fa) (hbase : attributeBase o "extend" X.env (eval o X.env) = eval o X.env := by rfl)
    (hfew : ((backTo cpos (starEach (e :: es) X.env)).all (fun x => !x.1) && (backToKw cpos (keywordEach [] X.env)).all (fun x => x.1.isSome)
      && decide ((e :: es).length + ([] : List Keyword).length + (if ([] : List Keyword).isEmpty then 0 else 1) < 30)) = true := by rfl)
    (hline : (apos.endLine == cpos.line) = true := by rfl) (hs : starEach (e :: es) X.env = (false, eval e X.env) :: starEach es X.env := by rfl) (hplain : (backTo cpos (starEach es X.env)).any (·.1) = false := by rfl) :
    SE X W (.Call (.Attribute o "extend" apos) (e :: es) [] cpos) (vM .list extendM fo fa) :=
  se_bm (T := .list) tyV_list PySem.F.plainAttrs_list PySem.F.slot_list_extend PySem.F.type_list_extend mt_extend vm_extend ho ha hbase hfew hline hs hplain
theorem se_index (hu : X.A.units + 65 < cLine) (ho : SE X W o fo) (ha : SA X W (e :: es) fa) (hbase : attributeBase o "index" X.env (eval o X.env) = eval o X.env := by rfl)
    (hfew : ((backTo cpos (starEach (e :: es) X.env)).all (fun x => !x.1) && (backToKw cpos (keywordEach [] X.env)).all (fun x => x.1.isSome)
      && decide ((e :: es).length + ([] : List Keyword).length + (if ([] : List Keyword).isEmpty then 0 else 1) < 30)) = true := by rfl)
    (hline : (apos.endLine == cpos.line) = true := by rfl) (hs : starEach (e :: es) X.env = (false, eval e X.env) :: starEach es X.env := by rfl) (hplain : (backTo cpos (starEach es X.env)).any (·.1) = false := by rfl) :
    SE X W (.Call (.Attribute o "index" apos) (e :: es) [] cpos) (vM .list indexM fo fa) :=
  se_bm (T := .list) tyV_list PySem.F.plainAttrs_list PySem.F.slot_list_index PySem.F.type_list_index (MtR.or mt_index (mt_indexD hu)) vm_index ho ha hbase hfew hline hs hplain
theorem se_popAt (ho : SE X W o fo) (ha : SA X W (e :: es) fa) (hbase : attributeBase o "pop" X.env (eval o X.env) = eval o X.env := by rfl)
    (hfew : ((backTo cpos (starEach (e :: es) X.env)).all (fun x => !x.1) && (backToKw cpos (keywordEach [] X.env)).all (fun x => x.1.isSome)
      && decide ((e :: es).length + ([] : List Keyword).length + (if ([] : List Keyword).isEmpty then 0 else 1) < 30)) = true := by rfl)
    (hline : (apos.endLine == cpos.line) = true := by rfl) (hs : starEach (e :: es) X.env = (false, eval e X.env) :: starEach es X.env := by rfl) (hplain : (backTo cpos (starEach es X.env)).any (·.1) = false := by rfl) :
    SE X W (.Call (.Attribute o "pop" apos) (e :: es) [] cpos) (vM .list popM fo fa) :=
  se_bm (T := .list) tyV_list PySem.F.plainAttrs_list PySem.F.slot_list_pop PySem.F.type_list_pop (MtR.or mt_pop mt_popAt) vm_pop ho ha hbase hfew hline hs hplain
theorem se_pop (ho : SE X W o fo) (hbase : attributeBase o "pop" X.env (eval o X.env) = eval o X.env := by rfl) (hline : (apos.endLine == cpos.line) = true := by rfl) :
    SE X W (.Call (.Attribute o "pop" apos) [] [] cpos) (vM .list popM fo aNil) :=
  se_bm0 (T := .list) tyV_list PySem.F.plainAttrs_list PySem.F.slot_list_pop PySem.F.type_list_pop (MtR.or mt_pop mt_popAt) vm_pop ho hbase hline
end

/-! ### statements -/
def bindS {α : Type} (r : Res α) (en : En) (k : α → Hst → SR) : SR := match r with
  | .ok a h => k a h
  | .err x h => .err x en h
  | .bad => .bad
theorem PoS.bind {α β : Type} {K : KW} {W : WX} {rel : List Addr → Hp → α → β → Prop} {m : List Addr} {H : Hp} {σ : L2.St} {en : En} {r : Res α} {k : α → Hst → SR} {D : Ends} (E : REn K m H en σ) (p : PoS K W m H (bindS r en k) D) :
    Po K W rel m H σ r (fun b H1 => ∃ m1 a h1, Ext K m H m1 H1 ∧ RH K m1 H1 h1 ∧ rel m1 H1 a b ∧ REn K m1 H1 en σ ∧ PoS K W m1 H1 (k a h1) D) := by
  cases r with
  | ok a h => exact fun m' H' b x R q => ⟨m', a, h, x, R, q, E.mono x, PoS.mono x p⟩
  | err x h => exact fun m' H' c d y R q => p m' H' σ c d y R (E.mono y) q
  | bad => exact p
section
variable {K : KW} {W : WX} {m : List Addr} {H : Hp} {h : Hst} {D : Ends} {en : En} {σ : L2.St}
theorem ps_nx (R : RH K m H h) (E : REn K m H en σ) (p : PoS K W m H (.nx en h) D) : D.nx σ H := p m H σ .refl R E
end
def sNil : Sm := fun en h => .nx en h
/-- one statement, then the rest -/
def thenS (r : SR) (k : Sm) : SR := match r with
  | .nx en h => k en h
  | r => r
def sSeq (f g : Sm) : Sm := fun en h => thenS (f en h) g
def sExpr (f : Ev) : Sm := fun en h => bindS (f en h) en fun _ h1 => .nx en h1
def sSet (i : Nat) (f : Ev) : Sm := fun en h => bindS (f en h) en fun d h1 => .nx (en.set i (some d)) h1
def sRet (f : Ev) : Sm := fun en h => bindS (f en h) en fun d h1 => .rt d h1
def sRetN : Sm := fun _ h => .rt .non h
def sIf (t : EvT) (f g : Sm) : Sm := fun en h => bindS (t en h) en fun b h1 => match b with
  | true => f en h1
  | false => g en h1
def sBrk : Sm := fun en h => .bk en h
def sCt : Sm := fun en h => .ct en h
section
variable {X : Cx} {W : WX} {e a c : Expr} {st : Stmt} {sts rest : List Stmt} {pos : Pos} {f g : Sm} {fe : Ev} {t : EvT}
theorem ss_nil : SSs X W [] sNil := viaSs pss_nil fun D σ H ⟨m, en, h, R, E, p⟩ => ps_nx R E p
theorem ss_cons (h1 : SS X W st f) (h2 : SSs X W rest g) : SSs X W (st :: rest) (sSeq f g) :=
  viaSs (pss_cons h1 h2) fun D σ H ⟨m, en, h, R, E, p⟩ => ⟨m, en, h, R, E, by
    have q : PoS X.Kw W m H (thenS (f en h) g) D := p
    cases ef : f en h with
    | nx en1 h1 =>
      rw [ef] at q
      exact fun m' H' σ' x R' E' => ⟨m', en1, h1, R', E', PoS.mono x q⟩
    | rt v h1 => rw [ef] at q; exact q
    | bk en1 h1 => rw [ef] at q; exact q
    | ct en1 h1 => rw [ef] at q; exact q
    | err x en1 h1 => rw [ef] at q; exact q
    | bad => rw [ef] at q; exact q⟩
theorem ss_one (h1 : SS X W st f) : SSs X W [st] f := pss_one h1
theorem ss_pass : SS X W (.Pass pos) sNil := viaS ps_pass fun D σ H ⟨m, en, h, R, E, p⟩ => ps_nx R E p
theorem ss_brk : SS X W (.Break pos) sBrk := viaS ps_break fun D σ H ⟨m, en, h, R, E, p⟩ => p m H σ .refl R E
theorem ss_ct : SS X W (.Continue pos) sCt := viaS ps_continue fun D σ H ⟨m, en, h, R, E, p⟩ => p m H σ .refl R E
theorem ss_expr (he : SE X W e fe) (hs : swapsWith e none pos.line X.env = pure false := by rfl) : SS X W (.Expr e pos) (sExpr fe) :=
  viaS (ps_expr he hs) fun D σ H ⟨m, en, h, R, E, p⟩ => ⟨m, en, h, R, E, Po.imp (PoS.bind (rel := RD X.Kw) E p) fun v H1 ⟨m1, d, h1, x1, R1, r, E1, p1⟩ => ps_nx R1 E1 p1⟩
theorem ss_set {i : Nat} {x : Str} {pos' : Pos} (hN : X.N.Nodup) (he : SE X W e fe) (hi : X.N[i]? = some x := by rfl) (hx : Loc X.env.scope x := by first | exact Or.inl rfl | exact Or.inr rfl) (hs : swapsWith e (some (.Name x pos')) pos.line X.env = pure false := by rfl)
    (hf : X.fn x = true ∨ X.env.scope.names.lookup x = some .local := by first | exact .inl rfl | exact .inr rfl) : SS X W (.Assign [.Name x pos'] e pos) (sSet i fe) :=
  viaS (ps_set (i := i) hN hi hx he hs hf) fun D σ H ⟨m, en, h, R, E, p⟩ => ⟨m, en, h, R, E, Po.imp (PoS.bind (rel := RD X.Kw) E p) fun v H1 ⟨m1, d, h1, x1, R1, r, E1, p1⟩ => ps_nx R1 (E1.set r i) p1⟩
theorem ss_ret (he : SE X W e fe) : SS X W (.Return (some e) pos) (sRet fe) :=
  viaS (ps_ret he) fun D σ H ⟨m, en, h, R, E, p⟩ => ⟨m, en, h, R, E, Po.imp (PoS.bind (rel := RD X.Kw) E p) fun v H1 ⟨m1, d, h1, x1, R1, r, E1, p1⟩ => p1 m1 H1 v .refl R1 r⟩
theorem ss_retN : SS X W (.Return none pos) sRetN := viaS ps_retN fun D σ H ⟨m, en, h, R, E, p⟩ => p m H .non .refl R .non
theorem ss_if (hc : ST X W c t) (ha : SSs X W sts f) (hb : SSs X W rest g) : SS X W (.If c sts rest pos) (sIf t f g) :=
  viaS (ps_if hc ha hb) fun D σ H ⟨m, en, h, R, E, p⟩ => ⟨m, en, h, R, E, Po.imp (PoS.bind (rel := fun _ _ a b => a = b) E p) fun v H1 ⟨m1, d, h1, x1, R1, r, E1, p1⟩ => by
    subst r
    cases d with
    | true => exact iteT ⟨m1, en, h1, R1, E1, p1⟩
    | false => exact iteF ⟨m1, en, h1, R1, E1, p1⟩⟩
end

/-! ### targets -/
abbrev Tg := D → En → Option En
/-- only the slots sl are stored -/
def Only (sl : List Nat) (σ σ' : L2.St) : Prop := σ'.length = σ.length ∧ ∀ i : Nat, i ∉ sl → σ'[i]? = σ[i]?
def RdG (K : KW) (sl : List Nat) (g : Tg) : TG := fun v σ H Q => ∃ m en d h, RH K m H h ∧ REn K m H en σ ∧ RD K m H d v ∧ ∃ en', g d en = some en' ∧ ∀ σ', REn K m H en' σ' → Only sl σ σ' → Q σ' H
def RdGs (K : KW) (sl : List Nat) (g : List D → En → Option En) : TGs := fun vs σ H Q => ∃ m en ds h, RH K m H h ∧ REn K m H en σ ∧ RDs K m H ds vs ∧ ∃ en', g ds en = some en' ∧ ∀ σ', REn K m H en' σ' → Only sl σ σ' → Q σ' H
abbrev SG (X : Cx) (tg : Expr) (sl : List Nat) (g : Tg) : Prop := PG X tg (RdG X.Kw sl g)
abbrev SGs (X : Cx) (tg : List Expr) (sl : List Nat) (g : List D → En → Option En) : Prop := PGs X tg (RdGs X.Kw sl g)
def gNm (i : Nat) : Tg := fun d en => some (en.set i (some d))
def gsNil : List D → En → Option En := fun ds en => match ds with
  | [] => some en
  | _ => none
def gsCons (g : Tg) (r : List D → En → Option En) : List D → En → Option En := fun ds en => match ds with
  | d :: ds => match g d en with
    | some en1 => r ds en1
    | none => none
  | [] => none
def gTp (n : Nat) (g : List D → En → Option En) : Tg := fun d en => match d with
  | .tup ds => if ds.length = n then g ds en else none
  | _ => none
section
variable {X : Cx} {e : Expr} {es : List Expr} {pos : Pos} {g : Tg} {gs : List D → En → Option En} {sl sl' : List Nat}
theorem sg_nm {i : Nat} {x : Str} (hN : X.N.Nodup) (hi : X.N[i]? = some x := by rfl) (hx : Loc X.env.scope x := by first | exact Or.inl rfl | exact Or.inr rfl) (hf : X.fn x = true ∨ X.env.scope.names.lookup x = some .local := by first | exact .inl rfl | exact .inr rfl) : SG X (.Name x pos) [i] (gNm i) :=
  ⟨fun pins s σ H v u Q I r ⟨m, en, d, h, R, E, rd, en', e, q⟩ => (pg_name (i := i) hN hi hx hf).run pins s σ H v u Q I r (q _ (by cases e; exact E.set rd i) ⟨by simp, fun j hj => List.getElem?_set_ne (fun z => hj (by simp [z]))⟩)⟩
theorem sgs_nil : SGs X [] [] gsNil := ⟨fun pins s σ H vs us Q I r ⟨m, en, ds, h, R, E, rd, en', e, q⟩ => pgs_nil.run pins s σ H vs us Q I r (by
  cases rd with
  | nil => cases e; exact ⟨rfl, q _ E ⟨rfl, fun _ _ => rfl⟩⟩
  | cons => cases e)⟩
theorem sgs_cons (h1 : SG X e sl g) (h2 : SGs X es sl' gs) (hs : (assignEach (e :: es) X.env).map (·.2) = assign e X.env :: (assignEach es X.env).map (·.2) := by rfl) : SGs X (e :: es) (sl ++ sl') (gsCons g gs) :=
  ⟨fun pins s σ H vs us Q I r ⟨m, en, ds, h, R, E, rd, en', e, q⟩ => (pgs_cons h1 h2 hs).run pins s σ H vs us Q I r (by
    cases rd with
    | nil => cases e
    | cons r1 rs =>
      unfold gsCons at e
      dsimp only at e
      split at e
      · rename_i en1 e1
        exact ⟨_, _, rfl, m, en, _, h, R, E, r1, en1, e1, fun σ1 E1 o1 => ⟨m, en1, _, h, R, E1, rs, en', e, fun σ2 E2 o2 => q σ2 E2 ⟨o2.1.trans o1.1, fun i hi => by
          rw [List.mem_append] at hi
          rw [o2.2 i (fun z => hi (.inr z)), o1.2 i (fun z => hi (.inl z))]⟩⟩⟩
      · cases e)⟩
theorem sg_tp {k n : Nat} (hc : X.calm = true) (h : SGs X es sl gs) (hn : (assignEach es X.env).length = n := by rfl) (hst : (assignEach es X.env).findIdx? (·.1) = none := by rfl) : SG X (.Tuple es k pos) sl (gTp n gs) :=
  ⟨fun pins s σ H v u Q I r ⟨m, en, d, hh, R, E, rd, en', e, q⟩ => (pg_tup hc h hn hst).run pins s σ H v u Q I r (by
    unfold gTp at e
    split at e
    · split at e
      · rename_i hl
        cases rd with
        | tup l qq rs => exact ⟨_, _, rfl, .of qq, by rw [← rs.length]; exact hl, m, en, _, hh, R, E, rs, en', e, q⟩
      · cases e
    · cases e)⟩
/-- target = value -/
def sAsg (g : Tg) (f : Ev) : Sm := fun en h => bindS (f en h) en fun d h1 => match g d en with
  | some en' => .nx en' h1
  | none => .bad
theorem ss_asg {W : WX} {tg : Expr} {fe : Ev} (he : SE X W e fe) (hg : SG X tg sl g) (hs : swapsWithSole [tg] e pos.line X.env = pure false := by rfl) (hw : swappedStores [tg] e X.env = pure none := by rfl)
    (h1 : (assignEach [tg] X.env).map (·.2) = [assign tg X.env] := by rfl) : SS X W (.Assign [tg] e pos) (sAsg g fe) :=
  viaS (ps_asg he hg hs hw h1) fun D σ H ⟨m, en, h, R, E, p⟩ => ⟨m, en, h, R, E, Po.imp (PoS.bind (rel := RD X.Kw) E p) fun v H1 ⟨m1, d, h1, x1, R1, r, E1, p1⟩ => by
    split at p1
    · rename_i en' e
      exact ⟨m1, en, d, h1, R1, E1, r, en', e, fun σ' E' _ => ps_nx R1 E' p1⟩
    · exact p1.elim⟩
end
end Mi

namespace Mi
open PySem PySem.Spec PyProof.Rows L2

/-! ### while -/
def whileL (t : EvT) (b : Sm) : Nat → Sm
  | 0, _, _ => .bad
  | g + 1, en, h => bindS (t en h) en fun k h1 => match k with
    | false => .nx en h1
    | true => match b en h1 with
      | .nx en2 h2 => whileL t b g en2 h2
      | .ct en2 h2 => whileL t b g en2 h2
      | .bk en2 h2 => .nx en2 h2
      | r => r
section
variable {X : Cx} {W : WX} {c : Expr} {body : List Stmt} {pos : Pos} {t : EvT} {b : Sm}
theorem ss_while (g : Nat) (hp : PassesOwn (model X.prog X.w) X.A X.env X.xe) (hc : ST X W c t) (hb : SSs X W body b) : SS X W (.While c body [] pos) (whileL t b g) :=
  viaS (ps_while hp hc hb) fun D σ H ⟨m, en, h, R, E, p⟩ => by
    refine ⟨fun k σ H => ∃ m en h, RH X.Kw m H h ∧ REn X.Kw m H en σ ∧ PoS X.Kw W m H (whileL t b k en h) D, ⟨g, m, en, h, R, E, p⟩, ?_⟩
    rintro k σ1 H1 ⟨m1, en1, h1, R1, E1, p1⟩
    cases k with
    | zero => exact p1.elim
    | succ k =>
      refine ⟨m1, en1, h1, R1, E1, Po.imp (PoS.bind (rel := fun _ _ a b => a = b) E1 p1) fun z H2 ⟨m2, d, h2, x2, R2, e2, E2, p2⟩ => ?_⟩
      subst e2
      cases d with
      | false => exact iteF (ps_nx R2 E2 p2)
      | true =>
        refine iteT ⟨fun σ' H' => ∃ m en h, RH X.Kw m H' h ∧ REn X.Kw m H' en σ' ∧ PoS X.Kw W m H' (whileL t b k en h) D, fun σ' H' q => ⟨k, Nat.lt_succ_self k, q⟩, m2, en1, h2, R2, E2, ?_⟩
        dsimp only at p2
        cases eb : b en1 h2 with
        | nx en3 h3 => rw [eb] at p2; exact fun m' H' σ' x R' E' => ⟨m', en3, h3, R', E', PoS.mono x p2⟩
        | ct en3 h3 => rw [eb] at p2; exact fun m' H' σ' x R' E' => ⟨m', en3, h3, R', E', PoS.mono x p2⟩
        | bk en3 h3 => rw [eb] at p2; exact p2
        | rt v h3 => rw [eb] at p2; exact p2
        | err x en3 h3 => rw [eb] at p2; exact p2
        | bad => rw [eb] at p2; exact p2
end

/-! ### what is walked -/
/-- J goes over the items as long as the list that is walked stands -/
def Wk (K : KW) (J : It) (m : List Addr) (H : Hp) (items : List D) (chk : Chk) : Prop := ∀ m' H' h', Ext K m H m' H' → RH K m' H' h' → chk.ok h' →
  (∀ i x, items[i]? = some x → J.go i H' ∧ ∀ v H'', J.yld i H' v H'' → ∃ m'', Ext K m' H' m'' H'' ∧ RH K m'' H'' h' ∧ RD K m'' H'' x v) ∧ J.stop items.length H'
def PoI (K : KW) (W : WX) (m : List Addr) (H : Hp) (σ : L2.St) (r : Res (List D × Chk)) (R : It → Hp → Prop) : Prop := match r with
  | .ok a h => ∀ m' H' J, Ext K m H m' H' → RH K m' H' h → Wk K J m' H' a.1 a.2 → R J H'
  | .err x h => ∀ m' H' cls d, Ext K m H m' H' → RH K m' H' h → RX K m' H' x cls d → W cls d σ H'
  | .bad => False
def RdI (K : KW) (W : WX) (f : EvI) : TI := fun σ H R => ∃ m en h, RH K m H h ∧ REn K m H en σ ∧ PoI K W m H σ (f en h) R
abbrev SI (X : Cx) (W : WX) (tg iter : Expr) (f : EvI) : Prop := PI X tg iter (RdI X.Kw W f)
theorem viaI {X : Cx} {tg iter : Expr} {t t' : TI} (h : PI X tg iter t) (q : ∀ σ H R, t' σ H R → t σ H R) : PI X tg iter t' := ⟨fun p s σ H R I w => h.run p s σ H R I (q _ _ _ w)⟩
theorem PoI.bind {α β : Type} {K : KW} {W : WX} {rel : List Addr → Hp → α → β → Prop} {m : List Addr} {H : Hp} {σ : L2.St} {r : Res α} {g : α → Hst → Res (List D × Chk)} {R : It → Hp → Prop} (p : PoI K W m H σ (r.bind g) R) :
    Po K W rel m H σ r (fun b H1 => ∃ m1 a h1, Ext K m H m1 H1 ∧ RH K m1 H1 h1 ∧ rel m1 H1 a b ∧ PoI K W m1 H1 σ (g a h1) R) := by
  cases r with
  | ok a h1 =>
    refine fun m' H' b x R' q => ⟨m', a, h1, x, R', q, ?_⟩
    have p' : PoI K W m H σ (g a h1) R := p
    cases e : g a h1 with
    | ok a2 h2 => rw [e] at p'; exact fun m2 H2 J y R2 w => p' m2 H2 J (x.trans y) R2 w
    | err x2 h2 => rw [e] at p'; exact fun m2 H2 c d y R2 w => p' m2 H2 c d (x.trans y) R2 w
    | bad => rw [e] at p'; exact p'
  | err x h1 => exact p
  | bad => exact p
section
variable {K : KW} {m : List Addr} {H : Hp} {h : Hst}
theorem wk_lst {n : Nat} {a : Addr} {xs : List D} (ha : m[n]? = some a) : Wk K (Itl K a) m H xs (.some (n, xs)) := by
  intro m' H' h' x R c
  obtain ⟨_, vs, q, rs⟩ := R.look (x.pre _ _ ha) (show h'[n]? = some (.lst xs) from c)
  refine ⟨fun i d e => ?_, ⟨vs, .of q, by rw [rs.length]; exact Nat.le_refl _⟩⟩
  obtain ⟨v, hv, rv⟩ := rs.get e
  refine ⟨⟨vs, v, .of q, hv⟩, fun w H'' y => ?_⟩
  obtain ⟨e1, y⟩ := y
  subst e1
  have := y vs (.of q)
  rw [hv] at this
  cases this
  exact ⟨m', .refl, R, rv⟩
theorem wk_sl {a : Addr} {xs : List D} {vs : List V} (q : SqI K H a vs) (rs : RDs K m H xs vs) : Wk K (Itl K a) m H xs .none := by
  intro m' H' h' x R c
  have q' := (x.sl _ _ q).seq
  have rs' := rs.mono x.e
  refine ⟨fun i d e => ?_, ⟨vs, q', by rw [rs'.length]; exact Nat.le_refl _⟩⟩
  obtain ⟨v, hv, rv⟩ := rs'.get e
  refine ⟨⟨vs, v, q', hv⟩, fun w H'' y => ?_⟩
  obtain ⟨e1, y⟩ := y
  subst e1
  have := y vs q'
  rw [hv] at this
  cases this
  exact ⟨m', .refl, R, rv⟩
theorem wk_tup {a : Addr} {xs : List D} {vs : List V} (q : H a = some (.tup vs)) (rs : RDs K m H xs vs) : Wk K (Itt K a) m H xs .none := by
  intro m' H' h' x R c
  have q' : SqT K H' a vs := .of (x.tup _ _ q)
  have rs' := rs.mono x.e
  refine ⟨fun i d e => ?_, ⟨vs, q', by rw [rs'.length]; exact Nat.le_refl _⟩⟩
  obtain ⟨v, hv, rv⟩ := rs'.get e
  refine ⟨⟨vs, v, q', hv⟩, fun w H'' y => ?_⟩
  obtain ⟨e1, y⟩ := y
  subst e1
  have := y vs q'
  rw [hv] at this
  cases this
  exact ⟨m', .refl, R, rv⟩
def signs (s : List Nat) : List D := s.map fun c => .str [c]
theorem wk_str {s : List Nat} (b : StrB s) : Wk K (Its ⟨s.toArray⟩) m H (signs s) .none := by
  intro m' H' h' x R c
  refine ⟨fun i d e => ?_, by show s.toArray.size ≤ _; simp [signs]⟩
  unfold signs at e
  rw [List.getElem?_map] at e
  obtain ⟨z, hz, rfl⟩ := Option.map_eq_some_iff.mp e
  have hi := (List.getElem?_eq_some_iff.mp hz).1
  refine ⟨by show i < s.toArray.size; simpa using hi, fun w H'' y => ?_⟩
  obtain ⟨e1, k, hk, rfl⟩ := y
  subst e1
  have hk' : s[i]? = some k := by simpa using hk
  rw [hz] at hk'
  cases hk'
  exact ⟨m', .refl, R, .str (s := [z]) ⟨by rw [sl_eq]; simp, fun w hw => by
    have : w = z := by simpa using hw
    rw [this]; exact b.cp z (List.mem_of_getElem? hz)⟩⟩
def rngD (lo : Int) : Nat → List D
  | 0 => []
  | n + 1 => .int lo :: rngD (lo + 1) n
theorem rngD_len : ∀ (lo : Int) (n : Nat), (rngD lo n).length = n
  | _, 0 => rfl
  | lo, n + 1 => congrArg Nat.succ (rngD_len (lo + 1) n)
theorem rngD_get : ∀ {n : Nat} {lo : Int} {i : Nat} {d : D}, (rngD lo n)[i]? = some d → i < n ∧ d = .int (lo + i)
  | 0, _, _, _, e => by simp [rngD] at e
  | n + 1, lo, 0, d, e => by simp [rngD] at e; subst e; simp
  | n + 1, lo, i + 1, d, e => by
    obtain ⟨h1, h2⟩ := rngD_get (n := n) (lo := lo + 1) (i := i) (by simpa [rngD] using e)
    refine ⟨by omega, ?_⟩
    rw [h2]
    congr 1
    omega
theorem wk_range {lo : Int} {n : Nat} : Wk K (Itr lo n) m H (rngD lo n) .none := by
  intro m' H' h' x R c
  refine ⟨fun i d e => ?_, by show n ≤ _; rw [rngD_len]; exact Nat.le_refl _⟩
  obtain ⟨h1, rfl⟩ := rngD_get e
  refine ⟨h1, fun w H'' y => ?_⟩
  obtain ⟨e1, rfl⟩ := y
  subst e1
  exact ⟨m', .refl, R, .int _⟩
end
/-- a list, a tuple, a text -/
def iterD (d : D) (h : Hst) : Res (List D × Chk) := match d with
  | .ref n => match h[n]? with
    | some (.lst xs) => .ok (xs, .some (n, xs)) h
    | _ => .bad
  | .sl xs => .ok (xs, .none) h
  | .tup xs => .ok (xs, .none) h
  | .str s => .ok (signs s, .none) h
  | _ => .bad
def iSeq (f : Ev) : EvI := fun en h => (f en h).bind fun d h1 => iterD d h1
theorem si_seq {X : Cx} {W : WX} {tg l : Expr} {f : Ev} (hl : SE X W l f) : SI X W tg l (iSeq f) := by
  refine ⟨fun pins s σ H R I ⟨m, en, h, Rh, E, p⟩ => ?_⟩
  have q : Po X.Kw W (RD X.Kw) m H σ (f en h) (fun v H1 => ∃ m1 d h1, f en h = .ok d h1 ∧ Ext X.Kw m H m1 H1 ∧ RH X.Kw m1 H1 h1 ∧ RD X.Kw m1 H1 d v ∧ PoI X.Kw W m1 H1 σ (iterD d h1) R) := by
    have q := PoI.bind (rel := RD X.Kw) p
    cases e : f en h with
    | ok d h1 =>
      rw [e] at q
      intro m' H' v x R' r
      obtain ⟨m1, d1, h2, a, b, c, z⟩ := q m' H' v x R' r
      exact ⟨m', d, h1, rfl, x, R', r, by
        have p' : PoI X.Kw W m H σ ((f en h).bind fun d h1 => iterD d h1) R := p
        rw [e] at p'
        have p2 : PoI X.Kw W m H σ (iterD d h1) R := p'
        cases e2 : iterD d h1 with
        | ok a2 h3 => rw [e2] at p2; exact fun m2 H2 J y R2 w => p2 m2 H2 J (x.trans y) R2 w
        | err x2 h3 => rw [e2] at p2; exact fun m2 H2 c d y R2 w => p2 m2 H2 c d (x.trans y) R2 w
        | bad => rw [e2] at p2; exact p2⟩
    | err x h1 => rw [e] at q; exact q
    | bad => rw [e] at q; exact q
  cases e : f en h with
  | ok d h0 =>
    have isL : (∃ n, d = .ref n) ∨ (∃ xs, d = .sl xs) → wpAny (model X.prog X.w) X.A (eval l X.env) (fun v s1 => wpAny (model X.prog X.w) X.A (pyIter v) (PIE X pins σ tg R) X.xe s1) X.xe s := fun hd => (pi_list hl).run pins s σ H R I ⟨m, en, h, Rh, E, q.imp fun v H1 ⟨m1, d1, h1, e1, x1, R1, r1, p1⟩ => by
      rw [e] at e1
      cases e1
      rcases hd with ⟨n, rfl⟩ | ⟨xs, rfl⟩
      · cases r1 with
        | ref ha =>
          unfold iterD at p1
          dsimp only at p1
          split at p1
          · rename_i xs he
            obtain ⟨_, vs, q, rs⟩ := R1.look ha he
            exact ⟨_, rfl, ⟨vs, .of q⟩, p1 m1 H1 _ .refl R1 (wk_lst ha)⟩
          · exact p1.elim
      · cases r1 with
        | sl l q rs => exact ⟨_, rfl, ⟨_, q.seq⟩, p1 m1 H1 _ .refl R1 (wk_sl q rs)⟩⟩
    cases d with
    | ref n => exact isL (.inl ⟨n, rfl⟩)
    | sl xs => exact isL (.inr ⟨xs, rfl⟩)
    | tup xs => exact (pi_tup hl).run pins s σ H R I ⟨m, en, h, Rh, E, q.imp fun v H1 ⟨m1, d1, h1, e1, x1, R1, r1, p1⟩ => by
        rw [e] at e1
        cases e1
        cases r1 with
        | tup l q rs => exact ⟨_, rfl, ⟨_, .of q⟩, p1 m1 H1 _ .refl R1 (wk_tup q rs)⟩⟩
    | str cs => exact (pi_str hl).run pins s σ H R I ⟨m, en, h, Rh, E, q.imp fun v H1 ⟨m1, d1, h1, e1, x1, R1, r1, p1⟩ => by
        rw [e] at e1
        cases e1
        cases r1 with
        | str b => exact ⟨_, rfl, p1 m1 H1 _ .refl R1 (wk_str b)⟩⟩
    | _ => exact (pi_list hl).run pins s σ H R I ⟨m, en, h, Rh, E, q.imp fun v H1 ⟨m1, d1, h1, e1, x1, R1, r1, p1⟩ => by
        rw [e] at e1
        cases e1
        exact p1.elim⟩
  | err x h0 => exact (pi_list hl).run pins s σ H R I ⟨m, en, h, Rh, E, q.imp fun v H1 ⟨m1, d1, h1, e1, x1, R1, r1, p1⟩ => by rw [e] at e1; cases e1⟩
  | bad => rw [e] at q; exact q.elim
/-- range(b), range(a, b), range(a, b, -1) .. -/
def iRng1 (f : Evs) : EvI := fun en h => (f en h).bind fun ds h1 => match ds with
  | [.int j] => if -4611686018427387904 ≤ j ∧ j < 4611686018427387904 then .ok (rngD 0 j.toNat, .none) h1 else .bad
  | _ => .bad
def iRng2 (f : Evs) : EvI := fun en h => (f en h).bind fun ds h1 => match ds with
  | [.int i, .int j] => if -4611686018427387904 ≤ i ∧ i < 4611686018427387904 ∧ -4611686018427387904 ≤ j ∧ j < 4611686018427387904 then .ok (rngD i (j - i).toNat, .none) h1 else .bad
  | _ => .bad
theorem pi_if {K : KW} {W : WX} {m : List Addr} {H : Hp} {σ : L2.St} {R : It → Hp → Prop} {c : Prop} [Decidable c] {r : Res (List D × Chk)} (p : PoI K W m H σ (if c then r else .bad) R) : c ∧ PoI K W m H σ r R := by
  by_cases hc : c
  · rw [if_pos hc] at p; exact ⟨hc, p⟩
  · rw [if_neg hc] at p; exact p.elim
section
variable {X : Cx} {W : WX} {tg a b : Expr} {f : Evs} {p pos : Pos}
theorem si_rng1 (hg : Gl X "range") (hm : X.mg "range" = none) (ha : SA X W [a] f) (hs : starEach [a] X.env = [(false, eval a X.env)] := by rfl) : SI X W tg (.Call (.Name "range" p) [a] [] pos) (iRng1 f) :=
  viaI (pi_range1 hg hm ha hs) fun σ H R ⟨m, en, h, Rh, E, q⟩ => ⟨m, en, h, Rh, E, Po.imp (PoI.bind (rel := RDs X.Kw) q) fun vs H1 ⟨m1, ds, h1, x1, R1, rs, p1⟩ => by
    split at p1
    · obtain ⟨hc, p1⟩ := pi_if p1
      cases rs with
      | cons r rs =>
        cases rs; cases r
        exact ⟨_, rfl, hc.1, hc.2, p1 m1 H1 _ .refl R1 wk_range⟩
    · exact p1.elim⟩
theorem si_rng2 (hg : Gl X "range") (hm : X.mg "range" = none) (ha : SA X W [a, b] f) (hs : starEach [a, b] X.env = [(false, eval a X.env), (false, eval b X.env)] := by rfl) (hs2 : starEach [b] X.env = [(false, eval b X.env)] := by rfl) : SI X W tg (.Call (.Name "range" p) [a, b] [] pos) (iRng2 f) :=
  viaI (pi_range2 hg hm ha hs hs2) fun σ H R ⟨m, en, h, Rh, E, q⟩ => ⟨m, en, h, Rh, E, Po.imp (PoI.bind (rel := RDs X.Kw) q) fun vs H1 ⟨m1, ds, h1, x1, R1, rs, p1⟩ => by
    split at p1
    · obtain ⟨hc, p1⟩ := pi_if p1
      cases rs with
      | cons r rs =>
        cases rs with
        | cons r' rs =>
          cases rs; cases r; cases r'
          exact ⟨_, _, rfl, hc, p1 m1 H1 _ .refl R1 wk_range⟩
    · exact p1.elim⟩
end

/-! ### for -/
def forL (chk : Chk) (g : Tg) (b : Sm) : List D → Sm
  | [], en, h => if chk.ok h then .nx en h else .bad
  | x :: xs, en, h => if chk.ok h then match g x en with
    | some en1 => match b en1 h with
      | .nx en2 h2 => forL chk g b xs en2 h2
      | .ct en2 h2 => forL chk g b xs en2 h2
      | .bk en2 h2 => .nx en2 h2
      | r => r
    | none => .bad
    else .bad
def sFor (f : EvI) (g : Tg) (b : Sm) : Sm := fun en h => match f en h with
  | .ok a h1 => forL a.2 g b a.1 en h1
  | .err x h1 => .err x en h1
  | .bad => .bad
theorem pos_if {K : KW} {W : WX} {m : List Addr} {H : Hp} {D : Ends} {c : Prop} [Decidable c] {r : SR} (p : PoS K W m H (if c then r else .bad) D) : c ∧ PoS K W m H r D := by
  by_cases hc : c
  · rw [if_pos hc] at p; exact ⟨hc, p⟩
  · rw [if_neg hc] at p; exact p.elim
section
variable {X : Cx} {W : WX} {tg iter : Expr} {body : List Stmt} {pos : Pos} {f : EvI} {g : Tg} {b : Sm} {sl : List Nat}
theorem ss_for (hp : PassesOwn (model X.prog X.w) X.A X.env X.xe) (hc : X.calm = true) (hi : SI X W tg iter f) (hg : SG X tg sl g) (hb : SSs X W body b) (hs : ∀ x, foldedSetIterable iter X.env x = pure x := by intro _; rfl) : SS X W (.For tg iter body [] pos) (sFor f g b) :=
  viaS (ps_for hp hc hi hg hb hs) fun D σ H ⟨m, en, h, R, E, p⟩ => ⟨m, en, h, R, E, by
    unfold sFor at p
    cases e : f en h with
    | err x h1 => rw [e] at p; exact fun m' H' c d x' R' q => p m' H' σ c d x' R' (E.mono x') q
    | bad => rw [e] at p; exact p
    | ok a h1 =>
      rw [e] at p
      obtain ⟨items, chk⟩ := a
      intro m1 H1 J x1 R1 wk
      have p1 : PoS X.Kw W m1 H1 (forL chk g b items en h1) D := PoS.mono x1 p
      refine ⟨fun i k σ' H' => k + i = items.length ∧ ∃ m' en' h', Ext X.Kw m1 H1 m' H' ∧ RH X.Kw m' H' h' ∧ REn X.Kw m' H' en' σ' ∧ PoS X.Kw W m' H' (forL chk g b (items.drop i) en' h') D, ⟨items.length, rfl, m1, en, h1, .refl, R1, E.mono x1, p1⟩, ?_⟩
      rintro i k σ2 H2 ⟨ek, m2, en2, h2, x2, R2, E2, p2⟩
      cases k with
      | zero =>
        have hi : i = items.length := by omega
        rw [hi, List.drop_length] at p2
        obtain ⟨hk, p2⟩ := pos_if p2
        refine .inl ⟨?_, ps_nx R2 E2 p2⟩
        rw [hi]
        exact (wk m2 H2 h2 x2 R2 hk).2
      | succ k =>
        have hi : i < items.length := by omega
        rw [List.drop_eq_getElem_cons hi] at p2
        obtain ⟨hk, p2⟩ := pos_if p2
        obtain ⟨go, yl⟩ := (wk m2 H2 h2 x2 R2 hk).1 i _ (List.getElem?_eq_getElem hi)
        split at p2
        · rename_i en3 e3
          refine .inr ⟨go, fun σ' H' => ∃ m' en' h', Ext X.Kw m1 H1 m' H' ∧ RH X.Kw m' H' h' ∧ REn X.Kw m' H' en' σ' ∧ PoS X.Kw W m' H' (forL chk g b (items.drop (i + 1)) en' h') D, fun σ' H' q => ⟨k, Nat.lt_succ_self k, by omega, q⟩, fun v H3 y => ?_⟩
          obtain ⟨m3, x3, R3, r3⟩ := yl v H3 y
          refine ⟨m3, en2, _, h2, R3, E2.mono x3, r3, en3, e3, fun σ' E3 _ => ⟨m3, en3, h2, R3, E3, ?_⟩⟩
          have p3 := PoS.mono x3 p2
          cases eb : b en3 h2 with
          | nx en4 h4 => rw [eb] at p3; exact fun m' H' σ' x R' E' => ⟨m', en4, h4, (x2.trans x3).trans x, R', E', PoS.mono x p3⟩
          | ct en4 h4 => rw [eb] at p3; exact fun m' H' σ' x R' E' => ⟨m', en4, h4, (x2.trans x3).trans x, R', E', PoS.mono x p3⟩
          | bk en4 h4 => rw [eb] at p3; exact p3
          | rt v h4 => rw [eb] at p3; exact p3
          | err x en4 h4 => rw [eb] at p3; exact p3
          | bad => rw [eb] at p3; exact p3
        · exact p2.elim⟩
end

/-! ### comprehensions -/
abbrev W0 : WX := fun _ _ _ _ => False
def tsN : EvT := fun _ h => .ok true h
def lcL (chk : Chk) (g : Tg) (t : EvT) (f : Ev) (en : En) : List D → List D → Hst → Res (List D)
  | [], acc, h => if chk.ok h then .ok acc h else .bad
  | x :: xs, acc, h => if chk.ok h then match g x en with
    | some en1 => match t en1 h with
      | .ok true h1 => match f en1 h1 with
        | .ok d h2 => if acc.length < 16777216 then lcL chk g t f en xs (acc ++ [d]) h2 else .bad
        | _ => .bad
      | .ok false h1 => lcL chk g t f en xs acc h1
      | _ => .bad
    | none => .bad
    else .bad
def vLc (vs : List Nat) (i : EvI) (g : Tg) (t : EvT) (f : Ev) : Ev := fun en h => match i en h with
  | .ok a h1 => (lcL a.2 g t f (wipeE en vs) a.1 [] h1).bind fun ds h2 => .ok (.ref h2.length) (h2 ++ [.lst ds])
  | .err x h1 => .err x h1
  | .bad => .bad
abbrev STs (X : Cx) (W : WX) (es : List Expr) (f : EvT) : Prop := PTs X es (RdT X.Kw W f)
theorem sts_nil {X : Cx} {W : WX} : STs X W [] tsN := ⟨fun pins s σ H Q I ⟨m, en, h, R, E, p⟩ => pts_nil.run pins s σ H Q I (po_ok (rel := fun _ _ a b => a = b) p R rfl)⟩
theorem sts_one {X : Cx} {W : WX} {c : Expr} {t : EvT} (h : ST X W c t) : STs X W [c] t := pts_one h
theorem wipe_in {σ : L2.St} {i : Nat} : ∀ {vs : List Nat}, i ∈ vs → i < σ.length → (wipe σ vs)[i]? = some none
  | v :: vs, h, hl => by
    unfold L2.wipe
    by_cases z : v = i
    · subst z
      rw [List.getElem?_set_self (by rw [wipe_length]; exact hl)]
    · rw [List.getElem?_set_ne z]
      rcases List.mem_cons.mp h with e | e
      · exact absurd e.symm z
      · exact wipe_in e hl
theorem wipe_eq {σ σ' : L2.St} {sl vs : List Nat} (o : Only sl (wipe σ vs) σ') (hs : ∀ i ∈ sl, i ∈ vs) : wipe σ' vs = wipe σ vs := by
  have hl : σ'.length = σ.length := by rw [o.1, wipe_length]
  apply List.ext_getElem?
  intro i
  by_cases hi : i ∈ vs
  · by_cases h : i < σ.length
    · rw [wipe_in hi h, wipe_in hi (by rw [hl]; exact h)]
    · rw [List.getElem?_eq_none (by rw [wipe_length]; omega), List.getElem?_eq_none (by rw [wipe_length]; omega)]
  · rw [wipe_out hi, o.2 i (fun z => hi (hs i z))]
section
variable {K : KW} {m m1 : List Addr} {H H1 : Hp} {p : Addr} {xs ys : List V}
theorem Ex0.lst (h : H p = some (.lst xs)) : Ex0 K m H m (upd H p (.lst ys)) :=
  Ex0.write (wr_of (.inr (by rw [h]; trivial)))
theorem Ext.lst (x : Ext K m H m1 H1) (hp : H p = none) (h : H1 p = some (.lst xs)) : Ext K m H m1 (upd H1 p (.lst ys)) :=
  ⟨x.pre, fun a vs e => (Ext.upd0 (K := K) (.inr (by rw [h]; trivial))).1 a vs (x.tup a vs e), fun a vs e => (Ext.upd0 (.inr (by rw [h]; trivial))).2 a vs (x.sl a vs e), fun a vs e => Ext.updX (.inr (by rw [h]; trivial)) a vs (x.xd a vs e), fun a f u e => Ext.updF (.inr (by rw [h]; trivial)) a f u (x.frz a f u e), fun a o e n => by
    rw [upd_ne (fun z => by subst z; rw [hp] at e; cases e)]; exact x.frm a o e n, x.new⟩
end
section
variable {X : Cx} {W : WX} {elt tg iter : Expr} {ifs : List Expr} {scope : Scope} {own : List (Str × Nat)} {pos spos : Pos} {i : EvI} {g : Tg} {t : EvT} {f : Ev} {sl : List Nat}
/-- the block's reading -/
theorem rd_lc {K : KW} {vs : List Nat} (hsl : ∀ j ∈ sl, j ∈ vs) : ∀ σ H Q, RdE K W (vLc vs i g t f) σ H Q → tLc (RdI K W i) (RdG K sl g) (RdT K W0 t) (RdE K W0 f) vs σ H Q := by
  rintro σ H Q ⟨m, en, h, R, E, p⟩
  refine ⟨m, en, h, R, E, ?_⟩
  unfold vLc at p
  cases e : i en h with
  | err x h1 => rw [e] at p; exact p
  | bad => rw [e] at p; exact p
  | ok a h1 =>
    rw [e] at p
    obtain ⟨items, chk⟩ := a
    intro m1 H1 J x1 R1 wk D hD
    have p1 : Po K W (RD K) m1 H1 σ ((lcL chk g t f (wipeE en vs) items [] h1).bind fun ds h2 => .ok (.ref h2.length) (h2 ++ [O.lst ds])) Q := Po.mono x1 p
    refine ⟨fun j k H' => k + j = items.length ∧ ∃ m' h' acc av, Ext K m1 H1 m' H' ∧ RH K m' H' h' ∧ H' D = some (.lst av) ∧ D ∉ m' ∧ RDs K m' H' acc av ∧ acc.length ≤ 16777216 ∧
      Po K W (RD K) m1 H1 σ ((lcL chk g t f (wipeE en vs) (items.drop j) acc h').bind fun ds h2 => .ok (.ref h2.length) (h2 ++ [O.lst ds])) Q,
      ⟨items.length, rfl, m1, h1, [], [], Ext.fresh hD, R1.laid hD, upd_same, R1.free hD, .nil, by simp, p1⟩, ?_⟩
    rintro j k H2 ⟨ek, m2, h2, acc, av, x2, R2, eD, nD, ra, la, p2⟩
    cases k with
    | zero =>
      have hj : j = items.length := by omega
      rw [hj, List.drop_length] at p2
      unfold lcL at p2
      by_cases hk : chk.ok h2
      · rw [if_pos hk] at p2
        refine .inl ⟨by rw [hj]; exact (wk m2 H2 h2 x2 R2 hk).2, ?_⟩
        have x3 : Ex0 K m2 H2 (m2 ++ [D]) H2 := ⟨more _, fun _ _ e => e, fun _ _ e => e, fun _ _ e => e⟩
        refine p2 (m2 ++ [D]) H2 _ ⟨fun n a e => more _ n a (x2.pre n a e), x2.tup, x2.sl, x2.xd, x2.frz, x2.frm, fun a ha => ?_⟩ (R2.adopt nD ⟨by rw [sl_eq]; exact la, av, eD, ra.mono x3⟩ x3) (.ref (by rw [← R2.len, List.getElem?_concat_length]))
        rcases List.mem_append.mp ha with ha | ha
        · exact x2.new a ha
        · have : a = D := by simpa using ha
          subst this
          exact .inr hD
      · rw [if_neg hk] at p2
        exact p2.elim
    | succ k =>
      have hj : j < items.length := by omega
      rw [List.drop_eq_getElem_cons hj] at p2
      unfold lcL at p2
      by_cases hk : chk.ok h2
      · rw [if_pos hk] at p2
        obtain ⟨go, yl⟩ := (wk m2 H2 h2 x2 R2 hk).1 j _ (List.getElem?_eq_getElem hj)
        refine .inr ⟨go, fun H' => ∃ m' h' acc av, Ext K m1 H1 m' H' ∧ RH K m' H' h' ∧ H' D = some (.lst av) ∧ D ∉ m' ∧ RDs K m' H' acc av ∧ acc.length ≤ 16777216 ∧
          Po K W (RD K) m1 H1 σ ((lcL chk g t f (wipeE en vs) (items.drop (j + 1)) acc h').bind fun ds h2 => .ok (.ref h2.length) (h2 ++ [O.lst ds])) Q, fun H' q => ⟨k, Nat.lt_succ_self k, by omega, q⟩, fun v H3 y => ?_⟩
        obtain ⟨m3, x3, R3, r3⟩ := yl v H3 y
        have x13 := x2.trans x3
        have eD3 := x3.frm D _ eD nD
        have nD3 : D ∉ m3 := fun z => (x3.new D z).elim nD (fun q => by rw [eD] at q; cases q)
        cases eg : g items[j] (wipeE en vs) with
        | none => rw [eg] at p2; exact p2.elim
        | some en1 =>
          rw [eg] at p2
          refine ⟨m3, _, _, h2, R3, (REn.wipe E vs).mono (x1.trans x13), r3, en1, eg, fun σ2 E2 o2 => ⟨wipe_eq o2 hsl, m3, en1, h2, R3, E2, ?_⟩⟩
          dsimp only at p2
          cases et : t en1 h2 with
          | err x h3 => rw [et] at p2; exact p2.elim
          | bad => rw [et] at p2; exact p2.elim
          | ok b h3 =>
            rw [et] at p2
            intro m4 H4 b' x4 R4 eb
            subst eb
            have eD4 := x4.frm D _ eD3 nD3
            have nD4 : D ∉ m4 := fun z => (x4.new D z).elim nD3 (fun q => by rw [eD3] at q; cases q)
            cases b with
            | false => exact iteF ⟨m4, h3, acc, av, x13.trans x4, R4, eD4, nD4, ra.mono (x3.trans x4), la, p2⟩
            | true =>
              refine iteT ⟨m4, en1, h3, R4, E2.mono x4, ?_⟩
              dsimp only at p2
              cases ef : f en1 h3 with
              | err x h4 => rw [ef] at p2; exact p2.elim
              | bad => rw [ef] at p2; exact p2.elim
              | ok d h4 =>
                rw [ef] at p2
                intro m5 H5 u x5 R5 ru
                have eD5 := x5.frm D _ eD4 nD4
                have nD5 : D ∉ m5 := fun z => (x5.new D z).elim nD4 (fun q => by rw [eD4] at q; cases q)
                dsimp only at p2
                by_cases hl : acc.length < 16777216
                · rw [if_pos hl] at p2
                  have ra5 := ra.mono (x3.trans (x4.trans x5)).e
                  have x6 : Ex0 K m5 H5 m5 (upd H5 D (.lst (av ++ [u]))) := Ex0.lst eD5
                  exact ⟨av, eD5, by rw [← ra5.length, sl_eq]; exact hl, m5, h4, acc ++ [d], av ++ [u], ((x13.trans x4).trans x5).lst hD eD5, R5.other nD5 x6, upd_same, nD5, (ra5.append (.one ru)).mono x6, by simp; omega, p2⟩
                · rw [if_neg hl] at p2
                  exact p2.elim
      · rw [if_neg hk] at p2
        exact p2.elim
theorem blk_kw {X : Cx} {s : Shared} {H : Hp} {cenv : Env} {fp : List Addr} (hc : X.calm = true) : (X.blk s H scope cenv fp).Kw = X.Kw := by
  show (⟨X.K, X.w, hxOf X.calm []⟩ : KW) = ⟨X.K, X.w, hxOf X.calm X.pn⟩
  rw [hc]
  rfl
theorem blkE {X : Cx} {s : Shared} {H : Hp} {cenv : Env} {fp : List Addr} {e : Expr} {W : WX} {f : Ev} (hc : X.calm = true) (h : SE (X.blk s H scope cenv fp) W e f) : PE (X.blk s H scope cenv fp) e (RdE X.Kw W f) := by
  have q : PE (X.blk s H scope cenv fp) e (RdE (X.blk s H scope cenv fp).Kw W f) := h
  rwa [blk_kw hc] at q
theorem blkT {X : Cx} {s : Shared} {H : Hp} {cenv : Env} {fp : List Addr} {e : List Expr} {W : WX} {f : EvT} (hc : X.calm = true) (h : STs (X.blk s H scope cenv fp) W e f) : PTs (X.blk s H scope cenv fp) e (RdT X.Kw W f) := by
  have q : PTs (X.blk s H scope cenv fp) e (RdT (X.blk s H scope cenv fp).Kw W f) := h
  rwa [blk_kw hc] at q
theorem blkG {X : Cx} {s : Shared} {H : Hp} {cenv : Env} {fp : List Addr} {e : Expr} {sl : List Nat} {g : Tg} (hc : X.calm = true) (h : SG (X.blk s H scope cenv fp) e sl g) : PG (X.blk s H scope cenv fp) e (RdG X.Kw sl g) := by
  have q : PG (X.blk s H scope cenv fp) e (RdG (X.blk s H scope cenv fp).Kw sl g) := h
  rwa [blk_kw hc] at q
theorem se_lc (hc : X.calm = true) (hN : X.N.Nodup) (hi : SI X W tg iter i) (ok : BlkOk X.N X.env.scope scope own)
    (hg : ∀ (s : Shared) (H : Hp) (C : Addr) (cl : List (Str × Addr)) (fp : List Addr), SG (X.blk s H scope (compEnvC scope cl C X.env) fp) tg sl g) (ht : ∀ (s : Shared) (H : Hp) (C : Addr) (cl : List (Str × Addr)) (fp : List Addr), STs (X.blk s H scope (compEnvC scope cl C X.env) fp) W0 ifs t)
    (he : ∀ (s : Shared) (H : Hp) (C : Addr) (cl : List (Str × Addr)) (fp : List Addr), SE (X.blk s H scope (compEnvC scope cl C X.env) fp) W0 elt f) (hsl : ∀ j ∈ sl, j ∈ own.map (·.2) := by decide) (hs : ∀ x, foldedSetIterable iter X.env x = pure x := by intro _; rfl) :
    SE X W (.ListComp elt [⟨tg, iter, ifs, 0⟩] scope pos) (vLc (own.map (·.2)) i g t f) :=
  viaE (pe_lc hc hN hi ok (fun s H C cl fp => blkG hc (hg s H C cl fp)) (fun s H C cl fp => blkT hc (ht s H C cl fp)) (fun s H C cl fp => blkE hc (he s H C cl fp)) hs) (rd_lc hsl)
theorem ss_setLc {j : Nat} {y : Str} {py : Pos} (hc : X.calm = true) (hN : X.N.Nodup) (hsw : swapsWith (.ListComp elt [⟨tg, iter, ifs, 0⟩] scope pos) (some (.Name y py)) spos.line X.env = pure true) (hi : SI X W tg iter i) (ok : BlkOk X.N X.env.scope scope own)
    (hg : ∀ (s : Shared) (H : Hp) (C : Addr) (cl : List (Str × Addr)) (fp : List Addr), SG (X.blk s H scope (compEnvC scope cl C X.env) fp) tg sl g) (ht : ∀ (s : Shared) (H : Hp) (C : Addr) (cl : List (Str × Addr)) (fp : List Addr), STs (X.blk s H scope (compEnvC scope cl C X.env) fp) W0 ifs t)
    (he : ∀ (s : Shared) (H : Hp) (C : Addr) (cl : List (Str × Addr)) (fp : List Addr), SE (X.blk s H scope (compEnvC scope cl C X.env) fp) W0 elt f) (hsl : ∀ j ∈ sl, j ∈ own.map (·.2) := by decide) (hy : X.N[j]? = some y := by rfl) (hyl : X.env.scope.names.lookup y = some .local := by rfl) (hs : ∀ x, foldedSetIterable iter X.env x = pure x := by intro _; rfl) :
    SS X W (.Assign [.Name y py] (.ListComp elt [⟨tg, iter, ifs, 0⟩] scope pos) spos) (sSet j (vLc (own.map (·.2)) i g t f)) :=
  viaS (ps_setLc hc hN hy hyl hsw hi ok (fun s H C cl fp => blkG hc (hg s H C cl fp)) (fun s H C cl fp => blkT hc (ht s H C cl fp)) (fun s H C cl fp => blkE hc (he s H C cl fp)) hs) fun D σ H ⟨m, en, h, R, E, p⟩ => rd_lc hsl σ H _ ⟨m, en, h, R, E, Po.imp (PoS.bind (rel := RD X.Kw) E p) fun v H1 ⟨m1, d, h1, x1, R1, r, E1, p1⟩ => ps_nx R1 (E1.set r j) p1⟩
end
end Mi

namespace Mi
open PySem PySem.Spec PyProof.Rows L2

/-! ### defs -/
/-- a def's run: its parameters' number, its slots' number, its body -/
def finishX (h : Hst) (x : Ex) (h' : Hst) : Res D :=
  if h'.take h.length = h ∧ (x.fs.all fun p => p.2.noRef) = true then .err x h else .err x h'
def runF (ns : Nat) (b : Sm) (ds : List D) (h : Hst) : Res D := match b (ds.map some ++ List.replicate (ns - ds.length) none) h with
  | .nx _ h' => finish h .non h'
  | .rt d h' => finish h d h'
  | .err x _ h' => finishX h x h'
  | _ => .bad
/-- the promise of a def -/
def spM (K : KW) (np : Nat) (F : List D → Hst → Res D) : Sp := fun vs H Q E => ∃ m h ds, RH K m H h ∧ RDs K m H ds vs ∧ ds.length = np ∧ Po K (fun c d _ H' => E c d H') (RD K) m H [] (F ds h) Q
structure FnM (P : Program) (w : World) (K : PySem.W.Frag) (mg : Str → Option Value) (base : Heap) (n : Nat) (d : He.DefD) (ps : List Str) (F : List D → Hst → Res D) : Prop where
  ex : ∃ fd, FunD K d.name d.qual d.params d.body d.scope (d.dvs K) (d.kws K) (He.fAd K d.at_) fd ∧ FnOk P w K mg base (L2.CX P w) n (He.fAd K d.at_) fd ps (spM ⟨K, w, none⟩ ps.length F) ∧ Binds K fd ps []
section
variable {P : Program} {w : World} {K : PySem.W.Frag} {mg : Str → Option Value} {base : Heap} {n : Nat} {d : He.DefD} {ps N : List Str} {F : List D → Hst → Res D}
theorem fn_zero {fd : FuncData} (hF : FunD K d.name d.qual d.params d.body d.scope (d.dvs K) (d.kws K) (He.fAd K d.at_) fd) (hb : Binds K fd ps []) (h0 : ∀ ds h, F ds h = .bad) : FnM P w K mg base 0 d ps F := by
  have no : ∀ vs H Q E, ¬ spM ⟨K, w, none⟩ ps.length F vs H Q E := fun vs H Q E ⟨m, h, ds, _, _, _, p⟩ => by
    rw [h0] at p
    exact p
  exact ⟨fd, hF, ⟨fun vs H Q E h => absurd h (no vs H Q E), fun A outer s H args us vs Q E _ _ _ _ h => absurd h (no vs H Q E)⟩, hb⟩
theorem env_start {K : KW} {m : List Addr} {H : Hp} : ∀ {ds : List D} {vs : List V} (k : Nat), RDs K m H ds vs → REn K m H (ds.map some ++ List.replicate k none) (vs.map some ++ List.replicate k none)
  | ds, vs, k, r => by
    refine ⟨by simp [r.length], fun i d e => ?_⟩
    by_cases hi : i < ds.length
    · rw [List.getElem?_append_left (by simpa using hi), List.getElem?_map] at e
      obtain ⟨x, hx, e⟩ := Option.map_eq_some_iff.mp e
      cases e
      obtain ⟨v, hv, rv⟩ := r.get hx
      exact ⟨v, by rw [List.getElem?_append_left (by simpa [← r.length] using hi), List.getElem?_map, hv]; rfl, rv⟩
    · rw [List.getElem?_append_right (by simpa using hi)] at e
      obtain ⟨h1, h2⟩ := List.getElem?_eq_some_iff.mp e
      simp at h2
theorem RFs.any {K : KW} {m m' : List Addr} {H : Hp} : ∀ {fs : List (Str × D)} {ws : List (Str × V)}, (fs.all fun p => p.2.noRef) = true → RFs K m H fs ws → RFs K m' H fs ws
  | _, _, _, .nil => .nil
  | _, _, h, .cons r rs => by
    rw [List.all_cons, Bool.and_eq_true] at h
    exact .cons (r.any h.1) (RFs.any h.2 rs)
/-- a def of the text keeps its promise -/
theorem fn_succ {fd : FuncData} {b : Sm} (hF : FunD K d.name d.qual d.params d.body d.scope (d.dvs K) (d.kws K) (He.fAd K d.at_) fd) (hb : Binds K fd ps []) (S : FnScope N ps d.scope) (hN : ps.length ≤ N.length)
    (body : ∀ (cdv : Value) (A : Around) (outer : List Env) (s : Shared) (H : Hp) (E : XK), Room n (A.deeper (envOfC d.qual d.scope s.heap.objs.size (He.fAd K d.at_) cdv)) →
      SSs (cxOf (L2.CX P w) P w K mg base N d.qual d.scope (He.fAd K d.at_) cdv A outer s H E) (fun c dd _ H' => E c dd H') d.body b)
    (hf : ∀ ds h, F ds h = runF N.length b ds h) : FnM P w K mg base (n + 1) d ps F := by
  refine ⟨fd, hF, FunD.ok hF S (fun vs H Q E ⟨m, h, ds, _, rs, hl, _⟩ => by rw [← rs.length, hl]) (fun cdv A outer s H vs Q E hr ⟨m, h, ds, R, rs, hl, p⟩ => ⟨_, body cdv A outer s H E hr, ?_⟩), hb⟩
  have hlv : vs.length = ds.length := rs.length.symm
  refine ⟨m, ds.map some ++ List.replicate (N.length - ds.length) none, h, R, ?_, ?_⟩
  · unfold L2.start
    rw [hlv]
    exact env_start _ rs
  · rw [hf] at p
    unfold runF at p
    cases e : b (ds.map some ++ List.replicate (N.length - ds.length) none) h with
    | nx en h' =>
      rw [e] at p
      dsimp only at p
      intro m' H' σ' x R' E'
      obtain ⟨m2, d2, h2, e2, x2, R2, r2⟩ := finish_ok R x R' (.non : RD ⟨K, w, none⟩ m' H' .non .non)
      rw [show (finish h D.non h') = .ok d2 h2 from e2] at p
      exact p m2 H' _ x2 R2 r2
    | rt dv h' =>
      rw [e] at p
      dsimp only at p
      intro m' H' v x R' r
      obtain ⟨m2, d2, h2, e2, x2, R2, r2⟩ := finish_ok R x R' r
      rw [show (finish h dv h') = .ok d2 h2 from e2] at p
      exact p m2 H' _ x2 R2 r2
    | err xx en h' =>
      rw [e] at p
      intro m' H' σ' cls dd x R' E' rx
      have p' : Po ⟨K, w, none⟩ (fun c d _ H' => E c d H') (RD ⟨K, w, none⟩) m H [] (finishX h xx h') Q := p
      unfold finishX at p'
      split at p'
      · rename_i hc
        refine p' m H' cls dd ⟨fun _ _ q => q, x.tup, x.sl, x.xd, x.frz, x.frm, fun _ q => .inl q⟩ (R'.first R x hc.1) ⟨rx.1, ?_⟩
        rcases rx.2 with h1 | ⟨da, ws, h1, h2, h3⟩
        · exact .inl h1
        · exact .inr ⟨da, ws, h1, h2, RFs.any hc.2 h3⟩
      · exact p' m' H' cls dd x R' rx
    | bk en h' => rw [e] at p; exact p.elim
    | ct en h' => rw [e] at p; exact p.elim
    | bad => rw [e] at p; exact p.elim
end
/-- a call: np arguments -/
def vF (np : Nat) (g : List D → Hst → Res D) (f : Evs) : Ev := fun en h => (f en h).bind fun ds h1 => if ds.length = np then g ds h1 else .bad
section
variable {X : Cx} {W : WX} {n : Nat} {d : He.DefD} {ps : List Str} {F : List D → Hst → Res D} {e : Expr} {es : List Expr} {x : Str} {p pos : Pos} {f : Evs}
theorem se_call {np : Nat} (G : FnM X.prog X.w X.K X.mg X.base n d ps F) (hr : Room n X.A) (tk : Takes X W) (hg : Gl X x) (hm : X.mg x = some (.ref (He.fAd X.K d.at_))) (ha : SA X W (e :: es) f) (hdb : (x == ("__debug__" : Str)) = false := by decide)
    (he : starEach (e :: es) X.env = (false, eval e X.env) :: starEach es X.env := by rfl) (hpl : (backTo pos (starEach es X.env)).any (·.1) = false := by rfl)
    (hnp : ps.length = np := by rfl) (hc : X.calm = true := by rfl) : SE X W (.Call (.Name x p) (e :: es) [] pos) (vF np F f) := by
  subst hnp
  have hK : X.Kw = ⟨X.K, X.w, none⟩ := by show (⟨X.K, X.w, hxOf X.calm X.pn⟩ : KW) = _; rw [hc]; rfl
  obtain ⟨fd, hF, ok, hb⟩ := G.ex
  refine viaE (pe_callSD ok hr hg hm hF.kp hb .nil (fun σ => passAt tk σ) ha hdb he hpl) fun σ H Q ⟨m, en, h, R, E, q⟩ => ⟨m, en, h, R, E, Po.imp (Po.bind (rel := RDs X.Kw) q) fun vs H1 ⟨m1, ds, h1, x1, R1, rs, p1⟩ => ?_⟩
  obtain ⟨hl, p1⟩ := p_if p1
  rw [List.append_nil]
  rw [hK] at R1 rs p1
  refine ⟨m1, h1, ds, R1, rs, hl, ?_⟩
  cases ef : F ds h1 with
  | ok a h2 => rw [ef] at p1; exact p1
  | err a h2 => rw [ef] at p1; exact p1
  | bad => rw [ef] at p1; exact p1
end
/-! ### stores -/
def setD (o i v : D) (h : Hst) : Option Hst := match o with
  | .ref n => match h[n]? with
    | some (.lst xs) => match i with
      | .int k => match ixN xs.length k with
        | some j => some (h.set n (.lst (xs.set j v)))
        | none => none
      | _ => none
    | some (.dic tk kvs) => match dPut kvs tk i v with
      | some kvs' => some (h.set n (.dic tk kvs'))
      | none => none
    | _ => none
  | _ => none
def rSetM : V → V → V → Hp → (Hp → Prop) → Prop := fun o i v H Q => rSetL o i v H Q ∨ ∃ a H', o = .ref a ∧ DPut H a i v H' ∧ Q H'
theorem set_M {X : Cx} (hu : X.A.units + 1 < cLine) : PSet X rSetM := by
  intro pins s σ H o i v ov iv u Q I ro ri rv h
  rcases h with h | ⟨a, H', rfl, g, q⟩
  · exact set_list pins s σ H o i v ov iv u Q I ro ri rv h
  · cases ro
    exact d_setItem hu I g ri rv fun s' I' => ⟨H', I', q⟩
theorem setD_ok {K : KW} {m : List Addr} {H : Hp} {h h' : Hst} {o i v : D} {ov iv vv : V} {Q : Hp → Prop} (R : RH K m H h) (ro : RD K m H o ov) (ri : RD K m H i iv) (rv : RD K m H v vv) (e : setD o i v h = some h') (q : ∀ H', Ext K m H m H' → RH K m H' h' → Q H') : rSetM ov iv vv H Q := by
  unfold setD at e
  split at e
  · cases ro with
    | ref ha =>
      split at e
      · rename_i xs he
        split at e
        · split at e
          · rename_i j hj
            cases e
            cases ri
            obtain ⟨l, vs, eq, rs⟩ := R.look ha he
            have x : Ext K m H m (upd H _ (.lst (vs.set j vv))) := Ext.write ha (by rw [eq]; trivial)
            exact .inl ⟨_, _, _, j, rfl, rfl, eq, by rw [← rs.length]; exact hj, q _ x (R.write ha (by rw [eq]; trivial) ⟨by rw [List.length_set]; exact l, _, upd_same, (rs.set rv j).mono x.e⟩)⟩
          · cases e
        · cases e
      · rename_i tk kvs he
        split at e
        · rename_i kvs' hp
          cases e
          obtain ⟨H', g, x, R'⟩ := dPut_ok R ha he ri rv hp
          exact .inr ⟨_, H', rfl, g, q H' x R'⟩
        · cases e
      · cases e
  · cases e
def sIx (fo fi fv : Ev) : Sm := fun en h => bindS (fv en h) en fun v h1 => bindS (fo en h1) en fun o h2 => bindS (fi en h2) en fun i h3 => match setD o i v h3 with
  | some h4 => .nx en h4
  | none => .bad
/-- name op= e -/
def sAug (i : Nat) (g : D → D → Hst → Res D) (f : Ev) : Sm := fun en h => match en[i]? with
  | some (some x) => bindS (f en h) en fun y h1 => bindS (g x y h1) en fun z h2 => .nx (en.set i (some z)) h2
  | _ => .bad
section
variable {X : Cx} {W : WX} {o i e : Expr} {pos pos' : Pos} {fo fi fv fe : Ev}
theorem ss_setIx (hu : X.A.units + 1 < cLine) (ho : SE X W o fo) (hi : SE X W i fi) (hv : SE X W e fv) (hs : swapsWithSole [.Subscript o i pos'] e pos.line X.env = pure false := by rfl) (hw : swappedStores [.Subscript o i pos'] e X.env = pure none := by rfl)
    (h1 : (assignEach [.Subscript o i pos'] X.env).map (·.2) = [assign (.Subscript o i pos') X.env] := by rfl)
    (ha : ∀ v, assign (.Subscript o i pos') X.env v = (do
      let ov ← holding [v] (eval o X.env)
      let iv ← holding [v, ov] (eval i X.env)
      standAt pos'
      holding [v, ov, iv] (setItem ov iv v)
      release [v, ov, iv] []) := by intro _; rfl) : SS X W (.Assign [.Subscript o i pos'] e pos) (sIx fo fi fv) :=
  viaS (ps_asg hv (pg_sub ho hi (set_M hu) ha) hs hw h1) fun D σ H ⟨m, en, h, R, E, p⟩ => ⟨m, en, h, R, E, Po.imp (PoS.bind (rel := RD X.Kw) E p) fun v H1 ⟨m1, d, h1, x1, R1, r1, E1, p1⟩ =>
    ⟨m1, en, h1, R1, E1, Po.imp (PoS.bind (rel := RD X.Kw) E1 p1) fun ov H2 ⟨m2, od, h2, x2, R2, r2, E2, p2⟩ =>
    ⟨m2, en, h2, R2, E2, Po.imp (PoS.bind (rel := RD X.Kw) E2 p2) fun iv H3 ⟨m3, id, h3, x3, R3, r3, E3, p3⟩ => by
      split at p3
      · rename_i h4 e4
        exact setD_ok R3 (r2.mono x3) r3 (r1.mono (x2.trans x3).e) e4 fun H4 x4 R4 => p3 m3 H4 _ x4 R4 (E3.mono x4)
      · exact p3.elim⟩⟩⟩
theorem ss_aug {j : Nat} {x : Str} {op : Operator} {r : R2} {g : D → D → Hst → Res D} (hN : X.N.Nodup) (ho : OpR X (inplaceOp op) r) (hg : Vop X.Kw r g) (he : SE X W e fe) (hi : X.N[j]? = some x := by rfl) (hx : Loc X.env.scope x := by first | exact Or.inl rfl | exact Or.inr rfl)
    (hf : X.fn x = true ∨ X.env.scope.names.lookup x = some .local := by first | exact .inl rfl | exact .inr rfl) : SS X W (.AugAssign (.Name x pos') op e pos) (sAug j g fe) :=
  viaS (ps_aug (i := j) (ti := r) hN hi hx he ho hf) fun D σ H ⟨m, en, h, R, E, p⟩ => by
    unfold sAug at p
    split at p
    · rename_i d ed
      obtain ⟨v, ev, rv⟩ := E.2 j d ed
      refine ⟨v, ev, m, en, h, R, E, Po.imp (PoS.bind (rel := RD X.Kw) E p) fun y H1 ⟨m1, d1, h1, x1, R1, r1, E1, p1⟩ => ?_⟩
      refine hg W m1 H1 h1 d d1 v y σ _ R1 (rv.mono x1) r1 (Po.imp (PoS.bind (rel := RD X.Kw) E1 p1) fun z H2 ⟨m2, d2, h2, x2, R2, r2, E2, p2⟩ => ps_nx R2 (E2.set r2 j) p2)
    · exact p.elim
end
/-! ### x op= y of ints and texts; is None -/
def addS (x y : D) (h : Hst) : Res D := match x, y with
  | .int i, .int j => .ok (.int (i + j)) h
  | .str s, .str t => if s.length + t.length ≤ 16777216 then .ok (.str (s ++ t)) h else .bad
  | _, _ => .bad
def rAddS : R2 := fun x y H Q => (rI0 (fun i j => .int (i + j))) x y H Q ∨ (∃ i j, x = .str i ∧ y = .str j ∧ i.length + j.length ≤ sizeLine ∧ Q (.str (i ++ j)) H)
theorem iop_addS {X : Cx} : OpR X (inplaceOp .Add) rAddS := iop_add.or iop_add_str
theorem vop_addS {K : KW} : Vop K rAddS addS := by
  intro W m H h x y v u σ Q R rx ry p
  unfold addS at p
  split at p
  · cases rx; cases ry; exact .inl ⟨_, _, rfl, rfl, p_int R p⟩
  · obtain ⟨hl, p⟩ := p_if p
    cases rx with
    | str bx =>
      cases ry with
      | str by' => exact .inr ⟨_, _, rfl, rfl, by rw [str_len, str_len, sl_eq]; exact hl, by rw [str_app]; exact po_ok p R (.str (bx.app by' hl))⟩
  · exact p.elim
def isND (x y : D) (h : Hst) : Res D := match y with
  | .non => .ok (.bl (decide (x = .non))) h
  | _ => .bad
def notND (x y : D) (h : Hst) : Res D := match y with
  | .non => .ok (.bl (!decide (x = .non))) h
  | _ => .bad
theorem non_rel {K : KW} {m : List Addr} {H : Hp} {x : D} {v : V} (r : RD K m H x v) : decide (v = .non) = decide (x = .non) := by
  cases r <;> simp
theorem vop_isN {K : KW} : Vop K (fun x y H Q => y = .non ∧ Q (.bl (decide (x = .non))) H) isND := by
  intro W m H h x y v u σ Q R rx ry p
  unfold isND at p
  split at p
  · cases ry; exact ⟨rfl, by rw [non_rel rx]; exact p_bl R p⟩
  · exact p.elim
theorem vop_notN {K : KW} : Vop K (fun x y H Q => y = .non ∧ Q (.bl (!decide (x = .non))) H) notND := by
  intro W m H h x y v u σ Q R rx ry p
  unfold notND at p
  split at p
  · cases ry; exact ⟨rfl, by rw [non_rel rx]; exact p_bl R p⟩
  · exact p.elim

/-! ### the law's end -/
theorem noCX {P : Program} {w : World} {outer : List Env} {H : Hp} {s s' : Shared} {e : Value} (h : L2.CX P w outer H s (fun _ _ _ => False) e s') : False := by
  obtain ⟨_, _, _, _, _, _, _, _, _, _, _, _, z⟩ := h
  exact z
theorem fun_uniq {K : PySem.W.Frag} {x qual : Str} {params : Arguments} {body : List Stmt} {scope : Scope} {dvs : List V} {kws : List (Str × V)} {f : Addr} {fd fd' : FuncData}
    (a : FunD K x qual params body scope dvs kws f fd) (b : FunD K x qual params body scope dvs kws f fd') : fd = fd' := by
  obtain ⟨oc, od, dV, kV, doc, pm, an, cdv, ct, osl, _, l, _⟩ := a.ex
  obtain ⟨oc', od', dV', kV', doc', pm', an', cdv', ct', osl', _, l', _⟩ := b.ex
  rw [l] at l'
  injection l' with l'
  injection l' with _ _ l' _
  injection l'
/-- the law gives True: from a run of the small language for every script -/
theorem law_ok {P : Program} {w : World} {K : PySem.W.Frag} {mg : Str → Option Value} {n : Nat} {d : He.DefD} {fd : FuncData} {F : Nat → List D → Hst → Res D}
    (hF : FunD K d.name d.qual d.params d.body d.scope (d.dvs K) (d.kws K) (He.fAd K d.at_) fd) (all : ∀ (base : Heap) (g : Nat), FnM P w K mg base n d ["script"] (F g)) (hn : n = 230)
    (run : ∀ ns : List Int, ns.length ≤ 63 → ∃ g h, F g [.sl (ns.map .int)] [] = .ok (.bl true) h) :
    ∃ sp : Sp, (∀ (H : Hp) (a : Addr) (ns : List Int), ns.length ≤ 63 → L2.Only H → SqL K H a (ns.map V.int) → sp [.ref a] H (fun v _ => v = .bl true) fun _ _ _ => False) ∧
      ∀ base : Heap, FnOk P w K mg base CX0 230 (He.fAd K d.at_) fd ["script"] sp := by
  subst hn
  refine ⟨fun vs H Q _ => ∃ g, spM ⟨K, w, none⟩ 1 (F g) vs H Q (fun _ _ _ => False), fun H a ns hl hO hS => ?_, fun base => ⟨fun vs H Q E ⟨g, m, h, ds, _, rs, hl, _⟩ => by rw [← rs.length, hl]; rfl, fun A outer s H args us vs Q E hr he hb hv ⟨g, hs⟩ => ?_⟩⟩
  · obtain ⟨g, h, e⟩ := run ns hl
    have hi : SqI ⟨K, w, none⟩ H a (ns.map V.int) := by
      rcases hS with (q | q) | q
      · rcases hO a with z | ⟨o, xs, z⟩
        · rw [z] at q; cases q
        · rw [z] at q; cases q
      · exact .inl q
      · exact .inr q
    have rs : ∀ l : List Int, RDs ⟨K, w, none⟩ [] H (l.map D.int) (l.map V.int) := fun l => by
      induction l with
      | nil => exact .nil
      | cons x l ih => exact .cons (.int x) ih
    refine ⟨g, [], [], [.sl (ns.map .int)], ⟨rfl, List.nodup_nil, fun n o e => by simp at e⟩, .cons (.sl (by rw [List.length_map, sl_eq]; omega) hi (rs ns)) .nil, rfl, ?_⟩
    rw [e]
    intro m' H' b x R r
    cases r
    rfl
  · obtain ⟨fd', hF', ok, _⟩ := (all base g).ex
    cases fun_uniq hF hF'
    refine codeAny_mono (ok.run A outer s H args us vs Q (fun _ _ _ => False) hr he hb hv hs) fun r s' h => ?_
    cases r with
    | error e => exact noCX h
    | ok f =>
      cases f with
      | ret u => exact h
      | next => exact h
      | brk => exact h
      | cont => exact h
end Mi

namespace Mi
open PySem PySem.Spec PyProof.Rows L2 PpSet

/-! ### sets of texts and ints: comprehensions, set(), add -/
theorem setE_at (P : Program) (w : World) (h : Heap) : (h.push { cls := .type "set", dict := none, data := .set #[] 0 (.fresh 0 0 (!w.params.followText "set-order")) }).SetOf (mixKind P w) h.objs.size (fun _ => false) 0 :=
  ⟨_, #[], 0, _, Heap.get?_push_size _ rfl, ⟨rfl, rfl, rfl⟩, rfl, fun e he => by simp at he, fun k => by simp, by decide, by rfl, rfl⟩
/-- what a set comprehension asks: D its set -/
def tSk (P : Program) (w : World) (wi : TI) (g : TG) (tt : TT) (te : TE) (vs : List Nat) : TE := fun σ H Q => wi σ H fun J H1 => ∀ D, H1 D = none →
  ∃ W : Nat → Nat → Hp → Prop, (∃ m, W 0 m (upd H1 D (SetK P w D (fun _ => false) 0))) ∧ ∀ i m H, W i m H → (J.stop i H ∧ Q (.ref D) H) ∨
    (J.go i H ∧ ∃ Nx : Hp → Prop, (∀ H', Nx H' → ∃ m', m' < m ∧ W (i + 1) m' H') ∧ ∀ x H', J.yld i H x H' →
      g x (wipe σ vs) H' fun σ2 H2 => wipe σ2 vs = wipe σ vs ∧ tt σ2 H2 fun b H3 => if b = true then te σ2 H3 fun y H4 =>
        ∃ (c : Key) (S : Key → Bool) (n : Nat), y = kV c ∧ H4 D = some (SetK P w D S n) ∧ n + 1 < scanBound ∧ Nx (upd H4 D (SetK P w D (fun j => S j || decide (j = c)) (if S c = true then n else n + 1)))
      else Nx H3)
section
variable {X : Cx}
theorem sk_core {pins : List (Addr × Obj)} {s : Shared} {σ : L2.St} {H : Hp} {Q : VK} {elt tg iter : Expr} {ifs : List Expr} {scope : Scope} {own : List (PySem.Str × Nat)} {pos pos' : Pos} {wi : TI} {g : TG} {tt : TT} {te : TE}
    {use : Option (Value → Sem Unit)} {Qf : Value → Shared → Prop} (hc : X.calm = true) (hN : X.N.Nodup) (I : Inv X pins σ H s) (hi : PI X tg iter wi) (ok : BlkOk X.N X.env.scope scope own)
    (pgs : ∀ (s : Shared) (H : Hp) (C : Addr) (cl : List (PySem.Str × Addr)) (fp : List Addr), PG (X.blk s H scope (compEnvC scope cl C X.env) fp) tg g)
    (pts : ∀ (s : Shared) (H : Hp) (C : Addr) (cl : List (PySem.Str × Addr)) (fp : List Addr), PTs (X.blk s H scope (compEnvC scope cl C X.env) fp) ifs tt)
    (pes : ∀ (s : Shared) (H : Hp) (C : Addr) (cl : List (PySem.Str × Addr)) (fp : List Addr), PE (X.blk s H scope (compEnvC scope cl C X.env) fp) elt te)
    (fold : ∀ x, foldedSetIterable iter X.env x = pure x) (h : tSk X.prog X.w wi g tt te (own.map (·.2)) σ H Q)
    (fine : ∀ D C s' m H', Inv X pins σ H' s' → Q (.ref D) H' → s'.heap.Ns C m → FpOk X pins H' C → compPost (model X.prog X.w) X.A X.xe use Qf (.ref D) C (.ok .next) s') :
    wpAny (model X.prog X.w) X.A (comprehension (.SetComp elt [⟨tg, iter, ifs, 0⟩] scope pos) scope X.env pos' (newSet (.type "set")) false (eval iter X.env) use) Qf X.xe s := by
  have freeCells : ∀ y ∈ scope.names, y.2 = .free → ∃ c, X.env.cells.lookup y.1 = some c := by
    intro y hy e
    rcases ok.free y hy e with k | k
    · exact I.ok.has _ (.inl k)
    · exact I.ok.has _ (.inr k)
  refine wpAny_comprehension_free (use := use) rfl fold (closure_ok freeCells) ok.kind (fun y hy e => by rw [ok.uniq y hy, e]) (thn (hi.run pins s σ H _ I h) fun xv s1 q1 => thn q1 fun itv s2 q2 => ?_)
  obtain ⟨it, fp, tn, J, Ha, ev, Ia, T, sta, fa, q⟩ := q2
  subst ev
  refine newSet_ok (newEnv_comp ?_)
  generalize eD : s2.heap.objs.size = D
  have noD : Ha D = none := Ia.hok.fresh (Nat.le_of_eq eD)
  obtain ⟨W, ⟨m0, w0⟩, turn⟩ := q D noD
  generalize eb : ({ s2 with heap := s2.heap.push { cls := .type "set", dict := none, data := .set #[] 0 (.fresh 0 0 (!X.w.params.followText "set-order")) } } : Shared) = sb
  have Ib : Inv X pins σ (upd Ha D (SetK X.prog X.w D (fun _ => false) 0)) sb := by
    rw [← eb]
    refine Ia.laid (t' := s2.toks) (fun b o e => Heap.get?_push_of_some _ e) (Nat.le_of_eq eD) ?_
    rw [← eD]
    exact setK_new (setE_at X.prog X.w s2.heap)
  have hb : sb.heap = s2.heap.push { cls := .type "set", dict := none, data := .set #[] 0 (.fresh 0 0 (!X.w.params.followText "set-order")) } := by rw [← eb]
  have lts : ∀ b ∈ fp, b < s2.heap.objs.size := fun b hb => let ⟨o, e, _⟩ := T.obj _ _ sta b hb; Heap.lt_size e
  have fb : ∀ b ∈ fp, FpOk X pins (upd Ha D (SetK X.prog X.w D (fun _ => false) 0)) b ∧ b < sb.heap.objs.size := by
    intro b hbf
    have lt := lts b hbf
    refine ⟨⟨?_, (fa b hbf).2⟩, by rw [hb, Heap.size_push]; exact Nat.lt_succ_of_lt lt⟩
    rw [upd_ne (by rw [← eD]; exact Nat.ne_of_lt lt)]
    exact (fa b hbf).1
  have stb : tn 0 sb.heap := T.keep _ _ _ sta fun b _ o e => by rw [hb]; exact Heap.get?_push_of_some _ e
  have Ic := block_start Ib ok hN fb
  have pg := pgs sb (upd Ha D (SetK X.prog X.w D (fun _ => false) 0)) sb.heap.objs.size (cellsFrom (sb.heap.objs.size + 1) scope.names (cloFrom X.env.cells scope.names [])) fp
  have pt := pts sb (upd Ha D (SetK X.prog X.w D (fun _ => false) 0)) sb.heap.objs.size (cellsFrom (sb.heap.objs.size + 1) scope.names (cloFrom X.env.cells scope.names [])) fp
  have pe := pes sb (upd Ha D (SetK X.prog X.w D (fun _ => false) 0)) sb.heap.objs.size (cellsFrom (sb.heap.objs.size + 1) scope.names (cloFrom X.env.cells scope.names [])) fp
  show codeAny _ _ (.compStart (.SetComp elt [⟨tg, iter, ifs, 0⟩] scope pos) 0 (.ref it) (.ref D) (compEnvC scope (cellsFrom (sb.heap.objs.size + 1) scope.names (cloFrom X.env.cells scope.names [])) sb.heap.objs.size X.env))
    (compPost (model X.prog X.w) X.A X.xe use Qf (.ref D) sb.heap.objs.size) { sb with heap := pushCells (sb.heap.push { cls := .type "dict", data := .dict #[] }) scope.names }
  have noFp : ∀ b ∈ fp, (upd Ha D (SetK X.prog X.w D (fun _ => false) 0)) b = none := fun b hb => (fb b hb).1.1
  generalize eE : compEnvC scope (cellsFrom (sb.heap.objs.size + 1) scope.names (cloFrom X.env.cells scope.names [])) sb.heap.objs.size X.env = ce at Ic pg pt pe ⊢
  have locE : ce.locals = sb.heap.objs.size := by subst eE; rfl
  generalize eH : upd Ha D (SetK X.prog X.w D (fun _ => false) 0) = Hb at Ib Ic pg pt pe w0 noFp fb
  generalize eS : ({ sb with heap := pushCells (sb.heap.push { cls := .type "dict", data := .dict #[] }) scope.names } : Shared) = sc at Ic ⊢
  have stc : tn 0 sc.heap := T.keep _ _ _ stb fun b _ o e => by rw [← eS]; exact pushCells_keeps _ _ _ _ (Heap.get?_push_of_some _ e)
  have fpIn : ∀ {σ' : L2.St} {H' : Hp} {s' : Shared}, Inv (X.blk sb Hb scope ce fp) [] σ' H' s' → (∀ b ∈ fp, H' b = none) → ∀ b ∈ fp, FpOk (X.blk sb Hb scope ce fp) [] H' b := by
    intro σ' H' s' J' none' b hb
    exact ⟨none' b hb, (J'.ok.exf b hb).1, J'.ok.exfs b hb, .inl hb, fun x c e => (J'.ok.exf b hb).2 x c e, fun p hp => absurd (show p ∈ ([] : List (Addr × Obj)) ++ [] from hp) (by simp)⟩
  have loop : codeAny (model X.prog X.w) X.A (.compLoop (.SetComp elt [⟨tg, iter, ifs, 0⟩] scope pos) 0 (.ref it) (.ref D) ce) (compPost (model X.prog X.w) X.A X.xe use Qf (.ref D) sb.heap.objs.size) sc := by
    refine compLoopS_any (fun n s' => ∃ i H', Inv (X.blk sb Hb scope ce fp) [] (wipe σ (own.map (·.2))) H' s' ∧ tn i s'.heap ∧ (∀ b ∈ fp, H' b = none) ∧ W i n H') ?_ m0 ⟨0, Hb, Ic, stc, noFp, w0⟩
    rintro n sd ⟨i, Hd, Id, std, nd, wd⟩
    rcases turn i n Hd wd with ⟨stop, q0⟩ | ⟨go, Nx, next, step⟩
    · refine thnF (T.done (X.blk sb Hb scope ce fp) rfl rfl rfl hc i [] sd _ Hd (fun _ _ => False) Id (fpIn Id nd) std stop) fun r se ⟨hr, Ie⟩ => ?_
      subst hr
      have If : Inv X pins σ Hd se := Ib.call' (ch := fp) Ie.os Ie.base Ie.hok Ie.bare fun b hb => ⟨(fb b hb).1.2.2.2.1, (fb b hb).1.2.1, (fb b hb).1.2.2.2.2.1, (fb b hb).1.2.2.2.2.2⟩
      have noC : Hd sb.heap.objs.size = none := by
        have z : Hd ce.locals = none := Ie.free
        rwa [locE] at z
      obtain ⟨m, hn, _⟩ := Ie.loc
      have hn : se.heap.Ns ce.locals m := hn
      rw [locE] at hn
      exact fine D sb.heap.objs.size se m Hd If q0 hn (Ib.fpOk (Nat.le_refl _) noC)
    · refine thnF (T.item (X.blk sb Hb scope ce fp) rfl rfl rfl hc i [] sd _ Hd (fun _ _ => False) Id (fpIn Id nd) std go) fun r se ⟨u, hr, qe⟩ => ?_
      subst hr
      refine thnF qe fun _ sf ⟨x, Hf, If, rf, yf, stf, nf⟩ => ?_
      have Ig := If.pinned (fpIn If nf) (T.obj _ _ stf)
      refine thnF (pg.run _ sf _ Hf x u _ Ig rf (step x Hf yf)) fun _ sg ⟨σg, Hg, Ih, wpg, qg⟩ => thnF (pt.run _ sg σg Hg _ Ih qg) fun b sh ⟨Hh, Ii, qh⟩ => ?_
      have ends : ∀ {s' : Shared} {H' : Hp}, Inv (X.blk sb Hb scope ce fp) ([] ++ pinsAt fp sf.heap) σg H' s' → Nx H' →
          ∃ m, m < n ∧ ∃ i H', Inv (X.blk sb Hb scope ce fp) [] (wipe σ (own.map (·.2))) H' s' ∧ tn i s'.heap ∧ (∀ b ∈ fp, H' b = none) ∧ W i m H' := by
        intro s' H' J' nx
        obtain ⟨m', lt, w'⟩ := next H' nx
        have keeps : ∀ b ∈ fp, ∀ o, sf.heap.get? b = some o → s'.heap.get? b = some o ∧ H' b = none := fun b hb o e =>
          have z := J'.pin (b, o) (List.mem_append_right _ (List.mem_append_right _ (mem_pinsAt hb e)))
          ⟨z.1, z.2.1⟩
        have len : (wipe σ (own.map (·.2))).length = σg.length := by rw [← wpg, wipe_length]
        refine ⟨m', lt, i + 1, H', (J'.unpinned (pins := [])).weak len (fun j v e => ?_), T.keep _ _ _ stf fun b hb o e => (keeps b hb o e).1, fun b hb => ?_, w'⟩
        · rw [← wpg] at e; exact (wipe_some e).1
        · obtain ⟨o, e, _⟩ := T.obj _ _ stf b hb; exact (keeps b hb o e).2
      cases b with
      | false =>
        simp only [Bool.false_eq_true, if_false] at qh ⊢
        exact ends Ii qh
      | true =>
        simp only [if_true] at qh ⊢
        refine thnF (pe.run _ sh σg Hh _ Ii qh) fun z si ⟨yv, Hi, Ij, ri, c, S, m, ey, hD, room, nx⟩ => ?_
        subst ey
        refine thnF (mt_saddK (X := X.blk sb Hb scope ce fp) _ si σg Hi (.ref D) [kV c] (.ref D) [z] (fun _ H' => Nx H') Ij rfl (.cons ri .nil) ⟨D, c, S, m, rfl, rfl, hD, room, nx⟩) fun _ sj ⟨_, Hj, Ik, _, nx'⟩ => ends Ik nx'
  exact codeAny_compStart_set loop (T.self X.A 0 _ _ _ stc loop)

theorem pe_sk {elt tg iter : Expr} {ifs : List Expr} {scope : Scope} {own : List (PySem.Str × Nat)} {pos : Pos} {wi : TI} {g : TG} {tt : TT} {te : TE} (hc : X.calm = true) (hN : X.N.Nodup) (hi : PI X tg iter wi) (ok : BlkOk X.N X.env.scope scope own)
    (pgs : ∀ (s : Shared) (H : Hp) (C : Addr) (cl : List (PySem.Str × Addr)) (fp : List Addr), PG (X.blk s H scope (compEnvC scope cl C X.env) fp) tg g)
    (pts : ∀ (s : Shared) (H : Hp) (C : Addr) (cl : List (PySem.Str × Addr)) (fp : List Addr), PTs (X.blk s H scope (compEnvC scope cl C X.env) fp) ifs tt)
    (pes : ∀ (s : Shared) (H : Hp) (C : Addr) (cl : List (PySem.Str × Addr)) (fp : List Addr), PE (X.blk s H scope (compEnvC scope cl C X.env) fp) elt te)
    (fold : ∀ x, foldedSetIterable iter X.env x = pure x := by intro _; rfl) : PE X (.SetComp elt [⟨tg, iter, ifs, 0⟩] scope pos) (tSk X.prog X.w wi g tt te (own.map (·.2))) :=
  ⟨fun pins s σ H Q I h => by
    rw [eval_SetComp]
    exact sk_core hc hN I hi ok pgs pts pes fold h fun D C s' m H' I' q hn ⟨f0, f1, f2, f3, f4, f5⟩ => ⟨m, hn, fun _ sb => ⟨.ref D, H', I'.turned (t' := s'.toks) (fun b o hb e => (sb.2 b hb).trans e) f0 f1 f3 f4 f5, rfl, q⟩⟩⟩
theorem ps_setSk {i : Nat} {y : Str} {py : Pos} {elt tg iter : Expr} {ifs : List Expr} {scope : Scope} {own : List (Str × Nat)} {pos spos : Pos} {wi : TI} {g : TG} {tt : TT} {te : TE} (hc : X.calm = true) (hN : X.N.Nodup) (hy : X.N[i]? = some y)
    (hyl : X.env.scope.names.lookup y = some .local) (hsw : swapsWith (.SetComp elt [⟨tg, iter, ifs, 0⟩] scope pos) (some (.Name y py)) spos.line X.env = pure true) (hi : PI X tg iter wi) (ok : BlkOk X.N X.env.scope scope own)
    (pgs : ∀ (s : Shared) (H : Hp) (C : Addr) (cl : List (PySem.Str × Addr)) (fp : List Addr), PG (X.blk s H scope (compEnvC scope cl C X.env) fp) tg g)
    (pts : ∀ (s : Shared) (H : Hp) (C : Addr) (cl : List (PySem.Str × Addr)) (fp : List Addr), PTs (X.blk s H scope (compEnvC scope cl C X.env) fp) ifs tt)
    (pes : ∀ (s : Shared) (H : Hp) (C : Addr) (cl : List (PySem.Str × Addr)) (fp : List Addr), PE (X.blk s H scope (compEnvC scope cl C X.env) fp) elt te)
    (fold : ∀ x, foldedSetIterable iter X.env x = pure x := by intro _; rfl) : PS X (.Assign [.Name y py] (.SetComp elt [⟨tg, iter, ifs, 0⟩] scope pos) spos) (tAsg (tSk X.prog X.w wi g tt te (own.map (·.2))) (gName i)) := by
  refine ⟨fun pins s σ H D I h => ?_⟩
  rw [exec_Assign_Name_used _ _ _ _ hsw]
  refine wpAny_bind (wpAny_standAt (wpAny_bind ?_))
  show wpAny _ X.A (do let _ ← comprehension (.SetComp elt [⟨tg, iter, ifs, 0⟩] scope pos) scope X.env (firstIterPos [⟨tg, iter, ifs, 0⟩] pos) (newSet (.type "set")) false (eval iter X.env) (some (assign (.Name y py) X.env))) _ _ s
  have h : tSk X.prog X.w wi g tt te (own.map (·.2)) σ H (fun x H1 => gName i x σ H1 D.nx) := h
  refine wpAny_bind (thn (sk_core (Qf := fun _ s' => SP X pins D .next s') hc hN I hi ok pgs pts pes fold h fun L C s' m H' I' q hn f => ?_) fun _ s' hq => wpAny_pure (wpAny_pure hq))
  show wpAny _ _ (assign (.Name y py) X.env (.ref L)) _ _ _
  refine wpAny_assign_Name (store_ok2 (v := V.ref L) I' hN hy (.inl hyl) rfl (fun s2 I2 ⟨a, sb, ha⟩ => ?_) (.inr hyl))
  obtain ⟨f0, f1, f2, f3, f4, f5⟩ := f
  have other : C ≠ a := ha.elim (fun z => by rw [z]; exact f1) fun z e => f4 y a z e.symm
  exact ⟨m, hn.sameBut sb other, fun h3 sb3 => ⟨_, H', I2.turned (t' := s2.toks) (fun b o hb e => (sb3.2 b hb).trans e) f0 f1 f3 f4 f5, q⟩⟩
theorem sw_trueS {elt : Expr} {gs : List Comprehension} {scope : Scope} {pos py : Pos} {y : Str} {l : Nat} {env : Env} (hk : env.scope.kind = .function) (hy : env.scope.names.lookup y = some .local) (hl : (py.line == pos.line) = true)
    (ha : (scope.names.any fun (n, k) => n == y && (k == .local || k == .cell)) = false) : swapsWith (.SetComp elt gs scope pos) (some (.Name y py)) l env = pure true := by
  have e1 : env.kindOf y = some .local := hy
  have e2 : env.blockKind = .function := by unfold Env.blockKind; rw [hk]; rfl
  unfold swapsWith
  simp only [e2, e1, ha, Expr.pos, hl]
  rfl
end
/-! ### their runs -/
def addK (ks : List D) (d : D) : List D := if d ∈ ks then ks else ks ++ [d]
def scL (chk : Chk) (g : Tg) (t : EvT) (f : Ev) (en : En) : List D → List D → Hst → Res (List D)
  | [], acc, h => if chk.ok h then .ok acc h else .bad
  | x :: xs, acc, h => if chk.ok h then match g x en with
    | some en1 => match t en1 h with
      | .ok true h1 => match f en1 h1 with
        | .ok d h2 => if acc.length < 4000 ∧ (keyD d).isSome = true then scL chk g t f en xs (addK acc d) h2 else .bad
        | _ => .bad
      | .ok false h1 => scL chk g t f en xs acc h1
      | _ => .bad
    | none => .bad
    else .bad
def vSc (vs : List Nat) (i : EvI) (g : Tg) (t : EvT) (f : Ev) : Ev := fun en h => match i en h with
  | .ok a h1 => (scL a.2 g t f (wipeE en vs) a.1 [] h1).bind fun ds h2 => .ok (.ref h2.length) (h2 ++ [.set ds])
  | .err x h1 => .err x h1
  | .bad => .bad
section
variable {P : Program} {w : World} {K : KW} {m m1 : List Addr} {H H1 : Hp} {p : Addr} {u u' : HO}
theorem Ex0.put (h : H p = some u) (hm : Mut (some u)) : Ex0 K m H m (upd H p u') :=
  Ex0.write (wr_of (.inr (by rw [h]; exact hm)))
theorem Ext.put (x : Ext K m H m1 H1) (hp : H p = none) (h : H1 p = some u) (hm : Mut (some u)) : Ext K m H m1 (upd H1 p u') :=
  ⟨x.pre, fun a vs e => (Ext.upd0 (K := K) (.inr (by rw [h]; exact hm))).1 a vs (x.tup a vs e), fun a vs e => (Ext.upd0 (.inr (by rw [h]; exact hm))).2 a vs (x.sl a vs e), fun a vs e => Ext.updX (.inr (by rw [h]; exact hm)) a vs (x.xd a vs e), fun a f u e => Ext.updF (.inr (by rw [h]; exact hm)) a f u (x.frz a f u e), fun a o e n => by
    rw [upd_ne (fun z => by subst z; rw [hp] at e; cases e)]; exact x.frm a o e n, x.new⟩
end
theorem keysD_add {d : D} {k : Key} (hk : keyD d = some k) : ∀ {ks : List D} {keys : List Key}, keysD ks = some keys → keysD (ks ++ [d]) = some (keys ++ [k])
  | [], keys, e => by
    cases (Option.some.inj e)
    show keysD [d] = some [k]
    unfold keysD
    rw [hk]
    rfl
  | c :: ks, keys, e => by
    unfold keysD at e
    cases e1 : keyD c with
    | none => rw [e1] at e; cases e
    | some k1 =>
      cases e2 : keysD ks with
      | none => rw [e1, e2] at e; cases e
      | some k2 =>
        rw [e1, e2] at e
        cases (Option.some.inj e)
        show keysD (c :: (ks ++ [d])) = _
        unfold keysD
        rw [e1, keysD_add hk e2]
        rfl
/-- what a set in the making holds -/
def SetIs (P : Program) (K : KW) (H : Hp) (D : Addr) (ks : List Mi.D) : Prop := ∃ (S : Key → Bool) (keys : List Key), H D = some (SetK P K.w D S ks.length) ∧ keysD ks = some keys ∧ ∀ k, S k = true ↔ k ∈ keys
theorem SetIs.new {P : Program} {K : KW} {H : Hp} {D : Addr} : SetIs P K (upd H D (SetK P K.w D (fun _ => false) 0)) D [] := ⟨_, [], upd_same, rfl, fun k => by simp⟩
theorem SetIs.add {P : Program} {K : KW} {H : Hp} {D : Addr} {S : Key → Bool} {ks : List Mi.D} {keys : List Key} {d : Mi.D} {c : Key} (hk : keyD d = some c) (e : keysD ks = some keys) (hS : ∀ k, S k = true ↔ k ∈ keys) :
    SetIs P K (upd H D (SetK P K.w D (fun j => S j || decide (j = c)) (if S c = true then ks.length else ks.length + 1))) D (addK ks d) := by
  have z := key_mem hk e
  unfold addK
  by_cases hx : d ∈ ks
  · have hc : S c = true := (hS c).mpr (z.mp hx)
    rw [if_pos hx, if_pos hc]
    refine ⟨_, keys, upd_same, e, fun k => ?_⟩
    rw [Bool.or_eq_true, hS, decide_eq_true_iff]
    exact ⟨fun q => q.elim id fun q => by rw [q]; exact z.mp hx, .inl⟩
  · have hc : ¬ S c = true := fun q => hx (z.mpr ((hS c).mp q))
    rw [if_neg hx, if_neg hc]
    refine ⟨_, keys ++ [c], by rw [List.length_append]; exact upd_same, keysD_add hk e, fun k => ?_⟩
    rw [Bool.or_eq_true, hS, decide_eq_true_iff]
    simp
section
variable {X : Cx} {W : WX} {elt tg iter : Expr} {ifs : List Expr} {scope : Scope} {own : List (Str × Nat)} {pos spos : Pos} {i : EvI} {g : Tg} {t : EvT} {f : Ev} {sl : List Nat}
theorem rd_sc {P : Program} {K : KW} {vs : List Nat} (hsl : ∀ j ∈ sl, j ∈ vs) : ∀ σ H Q, RdE K W (vSc vs i g t f) σ H Q → tSk P K.w (RdI K W i) (RdG K sl g) (RdT K W0 t) (RdE K W0 f) vs σ H Q := by
  rintro σ H Q ⟨m, en, h, R, E, p⟩
  refine ⟨m, en, h, R, E, ?_⟩
  unfold vSc at p
  cases e : i en h with
  | err x h1 => rw [e] at p; exact p
  | bad => rw [e] at p; exact p
  | ok a h1 =>
    rw [e] at p
    obtain ⟨items, chk⟩ := a
    intro m1 H1 J x1 R1 wk D hD
    have p1 : Po K W (RD K) m1 H1 σ ((scL chk g t f (wipeE en vs) items [] h1).bind fun ds h2 => .ok (.ref h2.length) (h2 ++ [O.set ds])) Q := Po.mono x1 p
    refine ⟨fun j k H' => k + j = items.length ∧ ∃ m' h' acc, Ext K m1 H1 m' H' ∧ RH K m' H' h' ∧ SetIs P K H' D acc ∧ D ∉ m' ∧ acc.length ≤ 4000 ∧
      Po K W (RD K) m1 H1 σ ((scL chk g t f (wipeE en vs) (items.drop j) acc h').bind fun ds h2 => .ok (.ref h2.length) (h2 ++ [O.set ds])) Q,
      ⟨items.length, rfl, m1, h1, [], Ext.fresh hD, R1.laid hD, .new, R1.free hD, by simp, p1⟩, ?_⟩
    rintro j k H2 ⟨ek, m2, h2, acc, x2, R2, ⟨S, keys, eD, hks, hS⟩, nD, la, p2⟩
    cases k with
    | zero =>
      have hj : j = items.length := by omega
      rw [hj, List.drop_length] at p2
      unfold scL at p2
      by_cases hk : chk.ok h2
      · rw [if_pos hk] at p2
        refine .inl ⟨by rw [hj]; exact (wk m2 H2 h2 x2 R2 hk).2, ?_⟩
        have x3 : Ex0 K m2 H2 (m2 ++ [D]) H2 := ⟨more _, fun _ _ e => e, fun _ _ e => e, fun _ _ e => e⟩
        refine p2 (m2 ++ [D]) H2 _ ⟨fun n a e => more _ n a (x2.pre n a e), x2.tup, x2.sl, x2.xd, x2.frz, x2.frm, fun a ha => ?_⟩ (R2.adopt nD ⟨P, S, keys, eD, hks, hS⟩ x3) (.ref (by rw [← R2.len, List.getElem?_concat_length]))
        rcases List.mem_append.mp ha with ha | ha
        · exact x2.new a ha
        · have : a = D := by simpa using ha
          subst this
          exact .inr hD
      · rw [if_neg hk] at p2
        exact p2.elim
    | succ k =>
      have hj : j < items.length := by omega
      rw [List.drop_eq_getElem_cons hj] at p2
      unfold scL at p2
      by_cases hk : chk.ok h2
      · rw [if_pos hk] at p2
        obtain ⟨go, yl⟩ := (wk m2 H2 h2 x2 R2 hk).1 j _ (List.getElem?_eq_getElem hj)
        refine .inr ⟨go, fun H' => ∃ m' h' acc, Ext K m1 H1 m' H' ∧ RH K m' H' h' ∧ SetIs P K H' D acc ∧ D ∉ m' ∧ acc.length ≤ 4000 ∧
          Po K W (RD K) m1 H1 σ ((scL chk g t f (wipeE en vs) (items.drop (j + 1)) acc h').bind fun ds h2 => .ok (.ref h2.length) (h2 ++ [O.set ds])) Q, fun H' q => ⟨k, Nat.lt_succ_self k, by omega, q⟩, fun v H3 y => ?_⟩
        obtain ⟨m3, x3, R3, r3⟩ := yl v H3 y
        have x13 := x2.trans x3
        have eD3 := x3.frm D _ eD nD
        have nD3 : D ∉ m3 := fun z => (x3.new D z).elim nD (fun q => by rw [eD] at q; cases q)
        cases eg : g items[j] (wipeE en vs) with
        | none => rw [eg] at p2; exact p2.elim
        | some en1 =>
          rw [eg] at p2
          refine ⟨m3, _, _, h2, R3, (REn.wipe E vs).mono (x1.trans x13), r3, en1, eg, fun σ2 E2 o2 => ⟨wipe_eq o2 hsl, m3, en1, h2, R3, E2, ?_⟩⟩
          dsimp only at p2
          cases et : t en1 h2 with
          | err x h3 => rw [et] at p2; exact p2.elim
          | bad => rw [et] at p2; exact p2.elim
          | ok b h3 =>
            rw [et] at p2
            intro m4 H4 b' x4 R4 eb
            subst eb
            have eD4 := x4.frm D _ eD3 nD3
            have nD4 : D ∉ m4 := fun z => (x4.new D z).elim nD3 (fun q => by rw [eD3] at q; cases q)
            cases b with
            | false => exact iteF ⟨m4, h3, acc, x13.trans x4, R4, ⟨S, keys, eD4, hks, hS⟩, nD4, la, p2⟩
            | true =>
              refine iteT ⟨m4, en1, h3, R4, E2.mono x4, ?_⟩
              dsimp only at p2
              cases ef : f en1 h3 with
              | err x h4 => rw [ef] at p2; exact p2.elim
              | bad => rw [ef] at p2; exact p2.elim
              | ok d h4 =>
                rw [ef] at p2
                intro m5 H5 u x5 R5 ru
                have eD5 := x5.frm D _ eD4 nD4
                have nD5 : D ∉ m5 := fun z => (x5.new D z).elim nD4 (fun q => by rw [eD4] at q; cases q)
                dsimp only at p2
                by_cases hl : acc.length < 4000 ∧ (keyD d).isSome = true
                · rw [if_pos hl] at p2
                  obtain ⟨c, hcd⟩ := Option.isSome_iff_exists.mp hl.2
                  refine ⟨c, S, acc.length, keyD_rel ru hcd, eD5, Nat.lt_trans (Nat.succ_lt_succ hl.1) (by decide), m5, h4, addK acc d, ((x13.trans x4).trans x5).put hD eD5 trivial, R5.other nD5 (Ex0.put eD5 trivial), .add hcd hks hS, nD5, ?_, p2⟩
                  unfold addK
                  split
                  · exact la
                  · rw [List.length_append]; exact hl.1
                · rw [if_neg hl] at p2
                  exact p2.elim
      · rw [if_neg hk] at p2
        exact p2.elim
theorem se_sc (hc : X.calm = true) (hN : X.N.Nodup) (hi : SI X W tg iter i) (ok : BlkOk X.N X.env.scope scope own)
    (hg : ∀ (s : Shared) (H : Hp) (C : Addr) (cl : List (Str × Addr)) (fp : List Addr), SG (X.blk s H scope (compEnvC scope cl C X.env) fp) tg sl g)
    (ht : ∀ (s : Shared) (H : Hp) (C : Addr) (cl : List (Str × Addr)) (fp : List Addr), STs (X.blk s H scope (compEnvC scope cl C X.env) fp) W0 ifs t)
    (he : ∀ (s : Shared) (H : Hp) (C : Addr) (cl : List (Str × Addr)) (fp : List Addr), SE (X.blk s H scope (compEnvC scope cl C X.env) fp) W0 elt f) (hsl : ∀ j ∈ sl, j ∈ own.map (·.2) := by decide) (hs : ∀ x, foldedSetIterable iter X.env x = pure x := by intro _; rfl) :
    SE X W (.SetComp elt [⟨tg, iter, ifs, 0⟩] scope pos) (vSc (own.map (·.2)) i g t f) :=
  viaE (pe_sk hc hN hi ok (fun s H C cl fp => blkG hc (hg s H C cl fp)) (fun s H C cl fp => blkT hc (ht s H C cl fp)) (fun s H C cl fp => blkE hc (he s H C cl fp)) hs) (rd_sc (K := X.Kw) hsl)
theorem ss_setSc {j : Nat} {y : Str} {py : Pos} (hc : X.calm = true) (hN : X.N.Nodup) (hsw : swapsWith (.SetComp elt [⟨tg, iter, ifs, 0⟩] scope pos) (some (.Name y py)) spos.line X.env = pure true) (hi : SI X W tg iter i) (ok : BlkOk X.N X.env.scope scope own)
    (hg : ∀ (s : Shared) (H : Hp) (C : Addr) (cl : List (Str × Addr)) (fp : List Addr), SG (X.blk s H scope (compEnvC scope cl C X.env) fp) tg sl g)
    (ht : ∀ (s : Shared) (H : Hp) (C : Addr) (cl : List (Str × Addr)) (fp : List Addr), STs (X.blk s H scope (compEnvC scope cl C X.env) fp) W0 ifs t)
    (he : ∀ (s : Shared) (H : Hp) (C : Addr) (cl : List (Str × Addr)) (fp : List Addr), SE (X.blk s H scope (compEnvC scope cl C X.env) fp) W0 elt f) (hsl : ∀ j ∈ sl, j ∈ own.map (·.2) := by decide) (hy : X.N[j]? = some y := by rfl) (hyl : X.env.scope.names.lookup y = some .local := by rfl) (hs : ∀ x, foldedSetIterable iter X.env x = pure x := by intro _; rfl) :
    SS X W (.Assign [.Name y py] (.SetComp elt [⟨tg, iter, ifs, 0⟩] scope pos) spos) (sSet j (vSc (own.map (·.2)) i g t f)) :=
  viaS (ps_setSk hc hN hy hyl hsw hi ok (fun s H C cl fp => blkG hc (hg s H C cl fp)) (fun s H C cl fp => blkT hc (ht s H C cl fp)) (fun s H C cl fp => blkE hc (he s H C cl fp)) hs) fun D σ H ⟨m, en, h, R, E, p⟩ => rd_sc (K := X.Kw) hsl σ H _ ⟨m, en, h, R, E, Po.imp (PoS.bind (rel := RD X.Kw) E p) fun v H1 ⟨m1, d, h1, x1, R1, r, E1, p1⟩ => ps_nx R1 (E1.set r j) p1⟩
end
end Mi

namespace Mi
open PySem PySem.Spec PyProof.Rows L2

/-! ### {}, d.get, enumerate, zip -/
def vDic (tk : Bool) : Ev := fun _ h => .ok (.ref h.length) (h ++ [.dic tk []])
section
variable {X : Cx} {W : WX} {pos : Pos}
theorem new_dic {K : KW} {m : List Addr} {H : Hp} {h : Hst} {σ : L2.St} {Q : VK} {tk : Bool} (R : RH K m H h) (p : Po K W (RD K) m H σ (.ok (.ref h.length) (h ++ [.dic tk []])) Q) {u : HO} (hu : u = if tk then .dT [] else .dK []) : ∀ q, H q = none → Q (.ref q) (upd H q u) := by
  intro q hq
  have x3 : Ex0 K m (upd H q u) (m ++ [q]) (upd H q u) := ⟨more _, fun _ _ e => e, fun _ _ e => e, fun _ _ e => e⟩
  have nq := R.free hq
  refine p (m ++ [q]) _ _ ⟨fun n a e => more _ n a e, (Ext.fresh (K := K) (m := m) hq).tup, (Ext.fresh (K := K) (m := m) hq).sl, (Ext.fresh (K := K) (m := m) hq).xd, (Ext.fresh (K := K) (m := m) hq).frz, (Ext.fresh (K := K) (m := m) hq).frm, fun a ha => ?_⟩ ((R.laid hq).adopt nq ?_ x3) (.ref (by rw [← R.len, List.getElem?_concat_length]))
  · rcases List.mem_append.mp ha with ha | ha
    · exact .inl ha
    · have : a = q := by simpa using ha
      subst this
      exact .inr hq
  · subst hu
    cases tk
    · exact ⟨[], upd_same, .nil⟩
    · exact ⟨[], upd_same, .nil⟩
theorem se_dicK : SE X W (.Dict [] [] pos) (vDic false) := viaE pe_dnewK fun σ H Q ⟨m, en, h, R, E, p⟩ => new_dic R p rfl
theorem se_dicT : SE X W (.Dict [] [] pos) (vDic true) := viaE pe_dnewT fun σ H Q ⟨m, en, h, R, E, p⟩ => new_dic R p rfl
end
def dictC (ds : List D) (h : Hst) : Res D := match ds with
  | [.ref n] => match h[n]? with
    | some (.dic false kvs) => .ok (.ref h.length) (h ++ [.dic false kvs])
    | _ => .bad
  | _ => .bad
theorem vc_dict {K : KW} : Vcall K (fun xs H Q => ∃ (a : Addr) (kvs : List (Key × V)), xs = [.ref a] ∧ Rd H a (.dK kvs) ∧ ∀ p, H p = none → Q (.ref p) (upd H p (.dK kvs))) dictC := by
  intro W m H h ds vs σ Q R rs p
  unfold dictC at p
  split at p
  · cases rs with
    | cons r rs => cases rs; cases r with
      | ref ha =>
        split at p
        · rename_i he
          obtain ⟨ws, q, r⟩ := R.look ha he
          exact ⟨_, ws, rfl, .inl q, fun l hl => p (m ++ [l]) _ _ (Ext.push hl) (R.push hl ⟨ws, upd_same, r.mono (Ext.push hl).e⟩) (.ref (by rw [← R.len, List.getElem?_concat_length]))⟩
        · exact p.elim
  · exact p.elim
def getM (x : D) (ds : List D) (h : Hst) : Res D := match x, ds with
  | .ref n, [k] => match h[n]? with
    | some (.dic tk kvs) => match dGet kvs tk k with
      | some o => .ok (o.getD .non) h
      | none => .bad
    | _ => .bad
  | .ref n, [k, v] => match h[n]? with
    | some (.dic tk kvs) => match dGet kvs tk k with
      | some o => .ok (o.getD v) h
      | none => .bad
    | _ => .bad
  | _, _ => .bad
section
variable {X : Cx} {W : WX} {o e f : Expr} {apos cpos : Pos} {fo fe ff : Ev}
theorem ty_dict {K : KW} {m : List Addr} {H : Hp} {h : Hst} {x : D} {v : V} (R : RH K m H h) (r : RD K m H x v) (e : tyD x h = some .dict) : ∃ n a, x = .ref n ∧ v = .ref a ∧ m[n]? = some a ∧ IsD H a := by
  cases r with
  | ref ha =>
    unfold tyD at e
    dsimp only at e
    split at e
    · cases e
    · rename_i tk kvs he
      cases tk with
      | false => obtain ⟨ws, q, _⟩ := R.look ha he; exact ⟨_, _, rfl, rfl, ha, .inl ⟨_, .inl q⟩⟩
      | true => obtain ⟨ws, q, _⟩ := R.look ha he; exact ⟨_, _, rfl, rfl, ha, .inr ⟨_, .inl q⟩⟩
    · cases e
  | _ => simp [tyD] at e
theorem se_get1 (hu : X.A.units + 1 < cLine) (ho : SE X W o fo) (he : SE X W e fe) (m : M1 X o "get" apos e cpos) : SE X W (.Call (.Attribute o "get" apos) [e] [] cpos) (vM .dict getM fo (aCons fe aNil)) :=
  viaE (pe_dget1 hu ho he m) fun σ H Q ⟨m, en, h, R, E, p⟩ => ⟨m, en, h, R, E, Po.imp (Po.bind (rel := RD X.Kw) p) fun x H1 ⟨m1, d, h1, x1, R1, r1, p1⟩ => by
    obtain ⟨ht, p1⟩ := p_if p1
    obtain ⟨n, a, rfl, rfl, ha, hd⟩ := ty_dict R1 r1 ht
    refine ⟨a, rfl, hd, m1, en, h1, R1, E.mono x1, ?_⟩
    have p2 : Po X.Kw W (RD X.Kw) m1 H1 σ ((fe en h1).bind fun k h2 => getM (.ref n) [k] h2) Q := by
      unfold aCons aNil at p1
      cases q : fe en h1 <;> rw [q] at p1 <;> exact p1
    exact Po.imp (Po.bind (rel := RD X.Kw) p2) fun y H2 ⟨m2, k, h2, x2, R2, r2, p3⟩ => by
      unfold getM at p3
      dsimp only at p3
      split at p3
      · rename_i tk kvs hk
        split at p3
        · rename_i ov g
          obtain ⟨vv, g1, g2⟩ := dGet_ok R2 (x2.pre _ _ ha) hk r2 g
          refine ⟨vv, g1, ?_⟩
          cases ov with
          | none => cases vv with
            | none => exact po_ok p3 R2 .non
            | some _ => exact g2.elim
          | some _ => cases vv with
            | none => exact g2.elim
            | some _ => exact po_ok p3 R2 g2
        · exact p3.elim
      · exact p3.elim⟩
theorem se_get2 (hu : X.A.units + 1 < cLine) (ho : SE X W o fo) (he : SE X W e fe) (hf : SE X W f ff) (m : M2 X o "get" apos e f cpos) : SE X W (.Call (.Attribute o "get" apos) [e, f] [] cpos) (vM .dict getM fo (aCons fe (aCons ff aNil))) :=
  viaE (pe_dget2 hu ho he hf m) fun σ H Q ⟨m, en, h, R, E, p⟩ => ⟨m, en, h, R, E, Po.imp (Po.bind (rel := RD X.Kw) p) fun x H1 ⟨m1, d, h1, x1, R1, r1, p1⟩ => by
    obtain ⟨ht, p1⟩ := p_if p1
    obtain ⟨n, a, rfl, rfl, ha, hd⟩ := ty_dict R1 r1 ht
    refine ⟨a, rfl, hd, m1, en, h1, R1, E.mono x1, ?_⟩
    have p2 : Po X.Kw W (RD X.Kw) m1 H1 σ ((fe en h1).bind fun k h2 => (ff en h2).bind fun v h3 => getM (.ref n) [k, v] h3) Q := by
      unfold aCons aNil at p1
      cases q : fe en h1 with
      | ok k h2 =>
        rw [q] at p1
        show Po X.Kw W (RD X.Kw) m1 H1 σ ((ff en h2).bind fun v h3 => getM (.ref n) [k, v] h3) Q
        have p1 : Po X.Kw W (RD X.Kw) m1 H1 σ (((ff en h2).bind fun d h3 => (Res.ok [] h3).bind fun ds h4 => Res.ok (d :: ds) h4).bind fun ds h4 => (Res.ok (k :: ds) h4).bind fun ds h5 => getM (.ref n) ds h5) Q := by
          cases q2 : ff en h2 <;> simp only [q2, Res.bind] at p1 ⊢ <;> exact p1
        cases q2 : ff en h2 <;> simp only [q2, Res.bind] at p1 ⊢ <;> exact p1
      | err x h2 => rw [q] at p1; exact p1
      | bad => rw [q] at p1; exact p1
    exact Po.imp (Po.bind (rel := RD X.Kw) p2) fun y H2 ⟨m2, k, h2, x2, R2, r2, p3⟩ => ⟨m2, en, h2, R2, E.mono (x1.trans x2), Po.imp (Po.bind (rel := RD X.Kw) p3) fun z H3 ⟨m3, v, h3, x3, R3, r3, p4⟩ => by
      unfold getM at p4
      dsimp only at p4
      split at p4
      · rename_i tk kvs hk
        split at p4
        · rename_i ov g
          obtain ⟨vv, g1, g2⟩ := dGet_ok R3 ((x2.trans x3).pre _ _ ha) hk (r2.mono x3.e) g
          refine ⟨vv, g1, ?_⟩
          cases ov with
          | none => cases vv with
            | none => exact po_ok p4 R3 r3
            | some _ => exact g2.elim
          | some _ => cases vv with
            | none => exact g2.elim
            | some _ => exact po_ok p4 R3 g2
        · exact p4.elim
      · exact p4.elim⟩⟩
end

/-! ### enumerate(list), zip(list, list), reversed(list) -/
def enumD (k : Nat) : List D → List D
  | [] => []
  | x :: xs => .tup [.int (k : Nat), x] :: enumD (k + 1) xs
theorem enumD_len : ∀ (k : Nat) (xs : List D), (enumD k xs).length = xs.length
  | _, [] => rfl
  | k, x :: xs => congrArg Nat.succ (enumD_len (k + 1) xs)
theorem enumD_get : ∀ {k : Nat} {xs : List D} {i : Nat} {d : D}, (enumD k xs)[i]? = some d → ∃ x, xs[i]? = some x ∧ d = .tup [.int ((k + i : Nat) : Int), x]
  | _, [], _, _, e => by simp [enumD] at e
  | k, x :: xs, 0, d, e => ⟨x, rfl, by simp [enumD] at e; subst e; rfl⟩
  | k, x :: xs, i + 1, d, e => by
    obtain ⟨y, h1, h2⟩ := enumD_get (k := k + 1) (xs := xs) (i := i) (by simpa [enumD] using e)
    exact ⟨y, h1, by rw [h2, show k + 1 + i = k + (i + 1) by omega]⟩
/-- a list as it stands: what is walked, what must stay -/
def ck1 : Option (Nat × List D) → Chk
  | none => .none
  | some p => .some p
def ck2 : Option (Nat × List D) → Option (Nat × List D) → Chk
  | none, none => .none
  | some p, none => .some p
  | none, some q => .some q
  | some p, some q => .two p q
theorem ck2_ok {a b : Option (Nat × List D)} {h : Hst} (e : (ck2 a b).ok h) : (ck1 a).ok h ∧ (ck1 b).ok h := by
  cases a <;> cases b
  · exact ⟨trivial, trivial⟩
  · exact ⟨trivial, e⟩
  · exact ⟨e, trivial⟩
  · exact e
def lstOf (d : D) (h : Hst) : Option (List D × Option (Nat × List D)) := match d with
  | .ref n => match h[n]? with
    | some (.lst xs) => some (xs, some (n, xs))
    | _ => none
  | .sl xs => some (xs, none)
  | _ => none
section
variable {K : KW} {m m' : List Addr} {H H' : Hp} {h h' : Hst} {d : D} {v : V} {xs ys : List D} {c : Chk} {o : Option (Nat × List D)}
theorem lstOf_ok (R : RH K m H h) (r : RD K m H d v) (e : lstOf d h = some (xs, o)) : ∃ a, v = .ref a ∧ (∃ vs, SqL K H a vs) ∧ ∀ (m' : List Addr) (H' : Hp) (h' : Hst), Ext K m H m' H' → RH K m' H' h' → (ck1 o).ok h' → ∃ vs, SqL K H' a vs ∧ RDs K m' H' xs vs := by
  cases r with
  | ref ha =>
    unfold lstOf at e
    dsimp only at e
    split at e
    · rename_i he
      cases e
      obtain ⟨_, vs, q, rs⟩ := R.look ha he
      refine ⟨_, rfl, ⟨vs, .of q⟩, fun m' H' h' x R' hc => ?_⟩
      obtain ⟨_, vs, q, rs⟩ := R'.look (x.pre _ _ ha) (show h'[_]? = some (.lst _) from hc)
      exact ⟨vs, .of q, rs⟩
    · cases e
  | sl l q rs =>
    cases e
    exact ⟨_, rfl, ⟨_, q.seq⟩, fun m' H' h' x R' _ => ⟨_, (x.sl _ _ q).seq, rs.mono x.e⟩⟩
  | _ => simp [lstOf] at e
theorem wk_enum {a : Addr} (w : ∀ (m' : List Addr) (H' : Hp) (h' : Hst), Ext K m H m' H' → RH K m' H' h' → c.ok h' → ∃ vs, SqL K H' a vs ∧ RDs K m' H' xs vs) : Wk K (Ite K a) m H (enumD 0 xs) c := by
  intro m' H' h' x R hc
  obtain ⟨vs, q, rs⟩ := w m' H' h' x R hc
  refine ⟨fun i d e => ?_, ⟨vs, q, by rw [enumD_len, rs.length]; exact Nat.le_refl _⟩⟩
  obtain ⟨y, hy, rfl⟩ := enumD_get e
  obtain ⟨v, hv, rv⟩ := rs.get hy
  refine ⟨⟨vs, v, q, hv⟩, fun u H'' y => ?_⟩
  obtain ⟨T, z, rfl, hT, rfl, y⟩ := y
  have := y vs q
  rw [hv] at this
  cases this
  have xt : Ext K m' H' m' (upd H' T (.tup [.int (i : Nat), v])) := Ext.fresh hT
  exact ⟨m', xt, R.laid hT, .tup (by rw [sl_eq]; show 2 ≤ 16777216; decide) upd_same (.cons (by rw [Nat.zero_add]; exact .int _) (.cons (rv.mono xt.e) .nil))⟩
def zipD : List D → List D → List D
  | x :: xs, y :: ys => .tup [x, y] :: zipD xs ys
  | _, _ => []
theorem zipD_get : ∀ {xs ys : List D} {i : Nat} {d : D}, (zipD xs ys)[i]? = some d → ∃ x y, xs[i]? = some x ∧ ys[i]? = some y ∧ d = .tup [x, y]
  | [], _, _, _, e => by simp [zipD] at e
  | _ :: _, [], _, _, e => by simp [zipD] at e
  | x :: xs, y :: ys, 0, d, e => ⟨x, y, rfl, rfl, by simp [zipD] at e; exact e.symm⟩
  | x :: xs, y :: ys, i + 1, d, e => by
    obtain ⟨u, v, h1, h2, h3⟩ := zipD_get (xs := xs) (ys := ys) (i := i) (by simpa [zipD] using e)
    exact ⟨u, v, h1, h2, h3⟩
theorem zipD_len : ∀ xs ys : List D, (zipD xs ys).length = min xs.length ys.length
  | [], _ => by simp [zipD]
  | _ :: _, [] => by simp [zipD]
  | x :: xs, y :: ys => by simp [zipD, zipD_len xs ys] <;> omega
end
theorem zip_stop : ∀ {xs ys : List D}, (zipD xs ys).length = xs.length ∨ (zipD xs ys).length = ys.length := by
  intro xs ys
  rw [zipD_len]
  omega
theorem wk_zip {K : KW} {m : List Addr} {H : Hp} {xs ys : List D} {c : Chk} {a b : Addr} (w : ∀ (m' : List Addr) (H' : Hp) (h' : Hst), Ext K m H m' H' → RH K m' H' h' → c.ok h' → (∃ vs, SqL K H' a vs ∧ RDs K m' H' xs vs) ∧ ∃ us, SqL K H' b us ∧ RDs K m' H' ys us) : Wk K (Itz K a b) m H (zipD xs ys) c := by
  intro m' H' h' x R hc
  obtain ⟨⟨vs, q, rs⟩, us, q2, rs2⟩ := w m' H' h' x R hc
  refine ⟨fun i d e => ?_, ⟨vs, us, q, q2, ?_⟩⟩
  · obtain ⟨y, z, hy, hz, rfl⟩ := zipD_get e
    obtain ⟨v, hv, rv⟩ := rs.get hy
    obtain ⟨u, hu, ru⟩ := rs2.get hz
    refine ⟨⟨vs, us, v, u, q, q2, hv, hu⟩, fun t H'' y => ?_⟩
    obtain ⟨T, v', u', rfl, hT, rfl, y1, y2⟩ := y
    have e1 := y1 vs q
    have e2 := y2 us q2
    rw [hv] at e1
    rw [hu] at e2
    cases e1
    cases e2
    have xt : Ext K m' H' m' (upd H' T (.tup [v, u])) := Ext.fresh hT
    exact ⟨m', xt, R.laid hT, .tup (by rw [sl_eq]; show 2 ≤ 16777216; decide) upd_same (.cons (rv.mono xt.e) (.cons (ru.mono xt.e) .nil))⟩
  · have l1 := rs.length
    have l2 := rs2.length
    rcases zip_stop (xs := xs) (ys := ys) with z | z
    · exact .inl (by omega)
    · exact .inr (by omega)
def iZip2 (f : Evs) : EvI := fun en h => (f en h).bind fun ds h1 => match ds with
  | [d, e] => match lstOf d h1, lstOf e h1 with
    | some (xs, c), some (ys, c') => .ok (zipD xs ys, ck2 c c') h1
    | _, _ => .bad
  | _ => .bad
def iEnum (f : Evs) : EvI := fun en h => (f en h).bind fun ds h1 => match ds with
  | [d] => match lstOf d h1 with
    | some (xs, c) => .ok (enumD 0 xs, ck1 c) h1
    | none => .bad
  | _ => .bad
section
variable {X : Cx} {W : WX} {e : Expr} {f : Evs} {p pos tpos : Pos} {elts : List Expr} {kk : Nat}
theorem si_enum (hg : Gl X "enumerate") (hm : X.mg "enumerate" = none) (ha : SA X W [e] f) (hs : starEach [e] X.env = [(false, eval e X.env)] := by rfl) : SI X W (.Tuple elts kk tpos) (.Call (.Name "enumerate" p) [e] [] pos) (iEnum f) :=
  viaI (pi_enum hg hm ha hs) fun σ H R ⟨m, en, h, Rh, E, q⟩ => ⟨m, en, h, Rh, E, Po.imp (PoI.bind (rel := RDs X.Kw) q) fun vs H1 ⟨m1, ds, h1, x1, R1, rs, p1⟩ => by
    split at p1
    · split at p1
      · rename_i xs c el
        cases rs with
        | cons r rs =>
          cases rs
          obtain ⟨a, rfl, ⟨vs, q0⟩, w⟩ := lstOf_ok R1 r el
          exact ⟨a, vs, rfl, q0, p1 m1 H1 _ .refl R1 (wk_enum w)⟩
      · exact p1.elim
    · exact p1.elim⟩
theorem si_zip {e2 : Expr} (hg : Gl X "zip") (hm : X.mg "zip" = none) (ha : SA X W [e, e2] f) (hs : starEach [e, e2] X.env = (false, eval e X.env) :: starEach [e2] X.env := by rfl) (hpl : (backTo pos (starEach [e2] X.env)).any (·.1) = false := by rfl) :
    SI X W (.Tuple elts kk tpos) (.Call (.Name "zip" p) [e, e2] [] pos) (iZip2 f) :=
  viaI (pi_zip hg hm ha hs hpl) fun σ H R ⟨m, en, h, Rh, E, q⟩ => ⟨m, en, h, Rh, E, Po.imp (PoI.bind (rel := RDs X.Kw) q) fun vs H1 ⟨m1, ds, h1, x1, R1, rs, p1⟩ => by
    split at p1
    · split at p1
      · rename_i xs c ys c' el el2
        cases rs with
        | cons r rs =>
          cases rs with
          | cons r2 rs =>
            cases rs
            obtain ⟨a, rfl, ⟨vs, q0⟩, w⟩ := lstOf_ok R1 r el
            obtain ⟨b, rfl, ⟨us, q2⟩, w2⟩ := lstOf_ok R1 r2 el2
            exact ⟨a, b, vs, us, rfl, q0, q2, p1 m1 H1 _ .refl R1 (wk_zip fun m' H' h' x R' hc => ⟨w m' H' h' x R' (ck2_ok hc).1, w2 m' H' h' x R' (ck2_ok hc).2⟩)⟩
      · exact p1.elim
    · exact p1.elim⟩
end
/-- what the small language does not say -/
def sBad : Sm := fun _ _ => .bad
theorem ss_bad {X : Cx} {W : WX} {sts : List Stmt} : SSs X W sts sBad := ⟨fun pins s σ H D I ⟨m, en, h, R, E, p⟩ => p.elim⟩
end Mi

namespace Mi
open PySem PySem.Spec PyProof.Rows L2

/-! ### dict(zip(keys, values)) -/
theorem vals_at : ∀ {xs : List V} {its : List Value} {i : Nat} {x : V}, Vals xs its → xs[i]? = some x → ∃ v, its[i]? = some v ∧ RelV x v
  | [], _, _, _, _, e => by simp at e
  | _ :: _, _, 0, _, .cons r rs, e => by cases (Option.some.inj e); exact ⟨_, rfl, r⟩
  | _ :: _, _, i + 1, _, .cons r rs, e => by
    obtain ⟨v, h1, h2⟩ := vals_at (i := i) rs (by simpa using e)
    exact ⟨v, by simpa using h1, h2⟩
theorem zip_pairs : ∀ {kvs : List (Key × V)} {ys : List V} {its : List Value}, Vals ys its → (∀ (i : Nat) (kv : Key × V), kvs[i]? = some kv → ys[i]? = some kv.2) →
    ∃ prs : List (Key × Value), KV kvs prs ∧ prs.length = kvs.length ∧ ∀ (i : Nat) (kv : Key × V) (v : Value), kvs[i]? = some kv → its[i]? = some v → prs[i]? = some (kv.1, v)
  | [], _, _, _, _ => ⟨[], .nil, rfl, fun i kv v e => by simp at e⟩
  | kv :: kvs, [], _, r, h => by have := h 0 kv rfl; simp at this
  | kv :: kvs, y :: ys, _, .cons (b := u) ry r, h => by
    obtain ⟨prs, h1, h2, h3⟩ := zip_pairs r fun i kv' e => by simpa using h (i + 1) kv' (by simpa using e)
    have e0 : y = kv.2 := by simpa using h 0 kv rfl
    subst e0
    refine ⟨(kv.1, u) :: prs, .cons ⟨rfl, ry⟩ h1, by simp [h2], fun i kv' v e1 e2 => ?_⟩
    cases i with
    | zero => simp at e1 e2 ⊢; subst e1; exact ⟨rfl, e2⟩
    | succ i => simpa using h3 i kv' v (by simpa using e1) (by simpa using e2)
def tDZ (K : PySem.W.Frag) (ta : TA) : TE := fun σ H Q => ta σ H fun vs H1 => ∃ (a b : Addr) (xs ys : List V) (kvs : List (Key × V)), vs = [.ref a, .ref b] ∧ SqL K H1 a xs ∧ SqL K H1 b ys ∧ kvs.length = min xs.length ys.length ∧
  (∀ (i : Nat) (kv : Key × V), kvs[i]? = some kv → xs[i]? = some (kV kv.1) ∧ ys[i]? = some kv.2) ∧ ∀ q, H1 q = none → Q (.ref q) (upd H1 q (.dK (mergeK [] kvs)))
theorem pe_dictZip {X : Cx} {e e2 : Expr} {ta : TA} {p p2 pos pos2 : Pos} (hc : X.calm = true) (hgd : Gl X "dict") (hmd : X.mg "dict" = none) (hgz : Gl X "zip") (hmz : X.mg "zip" = none) (ha : PA X [e, e2] ta)
    (hs : starEach [e, e2] X.env = (false, eval e X.env) :: starEach [e2] X.env := by rfl) (hpl : (backTo pos2 (starEach [e2] X.env)).any (·.1) = false := by rfl)
    (hs1 : starEach [.Call (.Name "zip" p2) [e, e2] [] pos2] X.env = (false, eval (.Call (.Name "zip" p2) [e, e2] [] pos2) X.env) :: starEach [] X.env := by rfl) (hpl1 : (backTo pos (starEach [] X.env)).any (·.1) = false := by rfl) :
    PE X (.Call (.Name "dict" p) [.Call (.Name "zip" p2) [e, e2] [] pos2] [] pos) (tDZ X.K ta) := by
  refine ⟨fun pins s σ H Q I h => ?_⟩
  refine wpAny_Call_Name_kw (ld_blt (u := .type "dict") I hgd hmd (by decide +kernel) ?_ (by decide) (by decide))
  refine PyProof.Rows.callWith_type1 ?_ hs1 hpl1
  rw [hs1]
  show wpAny _ _ (spliced ((false, eval (.Call (.Name "zip" p2) [e, e2] [] pos2) X.env) :: backTo pos (starEach [] X.env))) _ _ s
  refine Calls.spliced_cons ?_
  refine wpAny_Call_Name_kw (ld_blt (u := .type "zip") I hgz hmz (by decide +kernel) ?_ (by decide) (by decide))
  refine PyProof.Rows.callWith_type1 (thn (ha.run pos2 pins s σ H _ I h) fun us s1 ⟨vs, H1, I1, r1, q1⟩ => ?_) hs hpl
  obtain ⟨a, b, xs, ys, kvs, ex, hqx, hqy, hlen, hkv, q⟩ := q1
  subst ex
  cases r1 with
  | cons r rr =>
    cases rr with
    | cons r' rr =>
      cases rr
      cases r
      cases r'
      obtain ⟨its, rv, p1, z1⟩ := I1.list hqx
      obtain ⟨its2, rv2, p2', z2⟩ := I1.list hqy
      have la : a < s1.heap.objs.size := p1.lt
      have lb : b < s1.heap.objs.size := p2'.lt
      refine call_zip_2 p1.isList p2'.isList fun hz' hz hTI hTO h1 h2 hsz hk => Calls.spliced_nil ?_
      obtain ⟨prs, k1, k2, k3⟩ := zip_pairs rv2 fun i kv e => (hkv i kv e).2
      have l1 : xs.length = its.length := rv.length
      have l2 : ys.length = its2.length := rv2.length
      have ap := PySem.W.ktu_apart s1.heap.objs.size a b la lb
      refine PySem.call_dict_pairs (s := { s1 with heap := hz' }) (knd := mixKind X.prog X.w) (kvs := prs) (PySem.PairArg.zip (s1.heap.objs.size + 4) (s1.heap.objs.size + 2) (s1.heap.objs.size + 3) s1.heap.objs.size (s1.heap.objs.size + 1) a b ap its.toArray its2.toArray) (I1.ok.hd hc)
        ⟨hz, hTI, ⟨_, _, hTO⟩, h1, h2, Heap.IsList.at (show s1.heap.IsList a its.toArray from p1.isList) (fun o e => hk _ o e), Heap.IsList.at (show s1.heap.IsList b its2.toArray from p2'.isList) (fun o e => hk _ o e)⟩ ⟨by simp [k2, hlen, l1, l2], fun i key v rel => ?_⟩ (by simp; omega) fun h' tk hd' keep => ?_
      · obtain ⟨e1, e2⟩ := rel
        have e1 : its[i]? = some key := by simpa using e1
        have e2 : its2[i]? = some v := by simpa using e2
        have hi : i < kvs.length := by
          have b1 := (List.getElem?_eq_some_iff.mp e1).1
          have b2 := (List.getElem?_eq_some_iff.mp e2).1
          omega
        have e3 := List.getElem?_eq_getElem hi
        obtain ⟨x1, _⟩ := hkv i _ e3
        refine ⟨(kvs[i]'hi).1, k3 i _ v e3 e2, ?_⟩
        obtain ⟨w, hw, rw'⟩ := vals_at rv x1
        rw [e1] at hw
        cases hw
        exact kV_is (P := X.prog) (w := X.w) rw'
      · have hq : s1.heap.objs.size ≤ hz'.objs.size := by omega
        have hm : (hz'.objs.size == sysModules) = false := beq_eq_false_iff_ne.mpr (Nat.ne_of_gt (Nat.lt_of_lt_of_le I1.big hq))
        have hl2 : (mergeK [] kvs).length ≤ sizeLine := by
          refine Nat.le_trans (length_mergeK kvs []) ?_
          rw [List.length_nil, Nat.zero_add]
          omega
        exact ⟨.ref hz'.objs.size, upd H1 hz'.objs.size (.dK (mergeK [] kvs)), I1.laid (t' := tk) (fun b o e => keep b o (fun hm => by
          have lt := Heap.lt_size e
          simp only [List.mem_cons, List.not_mem_nil, or_false] at hm
          rcases hm with z | z | z | z <;> rw [z] at lt <;> first | exact absurd lt (Nat.lt_irrefl _) | exact absurd lt (Nat.not_lt.mpr (Nat.le_add_right _ _))) (hk b o e)) hq
          (show ObjOk X.prog X.w _ _ _ (.dK (mergeK [] kvs)) from ⟨hl2, hm, merged [] prs, KV.merge k1 .nil, hd'⟩), rfl, q _ (I1.hok.fresh hq)⟩

def zipPut (ps acc : List (D × D)) : List (D × D) := ps.foldl (fun acc p => putD acc p.1 p.2) acc
theorem rkv_zip {K : KW} {m : List Addr} {H : Hp} : ∀ {xs ys : List D} {vs us : List V}, RDs K m H xs vs → RDs K m H ys us → (xs.zip ys).all (fun p => (keyD p.1).isSome) = true →
    ∃ kvs : List (Key × V), RKV K m H keyD (xs.zip ys) kvs ∧ kvs.length = min vs.length us.length ∧ ∀ (i : Nat) (kv : Key × V), kvs[i]? = some kv → vs[i]? = some (kV kv.1) ∧ us[i]? = some kv.2
  | [], _, _, _, .nil, _, _ => ⟨[], .nil, by simp, fun i kv e => by simp at e⟩
  | _ :: _, [], _, _, .cons _ _, .nil, _ => ⟨[], .nil, by simp, fun i kv e => by simp at e⟩
  | x :: xs, y :: ys, _, _, .cons (v := v) r rs, .cons (v := u) q qs, h => by
    simp only [List.zip_cons_cons, List.all_cons, Bool.and_eq_true] at h
    obtain ⟨k, hk⟩ := Option.isSome_iff_exists.mp h.1
    obtain ⟨kvs, h1, h2, h3⟩ := rkv_zip rs qs h.2
    have ev := keyD_rel r hk
    refine ⟨(k, u) :: kvs, .cons ⟨hk, kg_of r⟩ q h1, by simp [h2] <;> omega, fun i kv e => ?_⟩
    cases i with
    | zero =>
      have : (k, u) = kv := by simpa using e
      subst this
      exact ⟨by rw [ev]; rfl, rfl⟩
    | succ i => simpa using h3 i kv (by simpa using e)
theorem rkv_put {K : KW} {m : List Addr} {H : Hp} : ∀ {ps acc : List (D × D)} {kvs wacc : List (Key × V)}, RKV K m H keyD ps kvs → RKV K m H keyD acc wacc → RKV K m H keyD (zipPut ps acc) (mergeK wacc kvs)
  | [], _, _, _, .nil, ra => ra
  | (k, d) :: ps, acc, (c, v) :: kvs, wacc, .cons hk r rs, ra => by
    show RKV K m H keyD (zipPut ps (putD acc k d)) (mergeK (putK wacc c v) kvs)
    exact rkv_put rs (ra.put keyD_inj hk.1 hk.2 r)
def dzD (ds : List D) (h : Hst) : Res D := match ds with
  | [d, e] => match lstOf d h, lstOf e h with
    | some (xs, _), some (ys, _) => if (xs.zip ys).all (fun p => (keyD p.1).isSome) = true then .ok (.ref h.length) (h ++ [.dic false (zipPut (xs.zip ys) [])]) else .bad
    | _, _ => .bad
  | _ => .bad
theorem lstOf_now {K : KW} {m : List Addr} {H : Hp} {h : Hst} {d : D} {v : V} {xs : List D} {o : Option (Nat × List D)} (R : RH K m H h) (r : RD K m H d v) (e : lstOf d h = some (xs, o)) : ∃ a vs, v = .ref a ∧ SqL K H a vs ∧ RDs K m H xs vs := by
  obtain ⟨a, rfl, _, w⟩ := lstOf_ok R r e
  have hc : (ck1 o).ok h := by
    unfold lstOf at e
    split at e
    · split at e
      · rename_i he; cases e; exact he
      · cases e
    · cases e; trivial
    · cases e
  obtain ⟨vs, q, rs⟩ := w m H h .refl R hc
  exact ⟨a, vs, rfl, q, rs⟩
theorem se_dictZip {X : Cx} {W : WX} {e e2 : Expr} {f : Evs} {p p2 pos pos2 : Pos} (hc : X.calm = true) (hgd : Gl X "dict") (hmd : X.mg "dict" = none) (hgz : Gl X "zip") (hmz : X.mg "zip" = none) (ha : SA X W [e, e2] f)
    (hs : starEach [e, e2] X.env = (false, eval e X.env) :: starEach [e2] X.env := by rfl) (hpl : (backTo pos2 (starEach [e2] X.env)).any (·.1) = false := by rfl)
    (hs1 : starEach [.Call (.Name "zip" p2) [e, e2] [] pos2] X.env = (false, eval (.Call (.Name "zip" p2) [e, e2] [] pos2) X.env) :: starEach [] X.env := by rfl) (hpl1 : (backTo pos (starEach [] X.env)).any (·.1) = false := by rfl) :
    SE X W (.Call (.Name "dict" p) [.Call (.Name "zip" p2) [e, e2] [] pos2] [] pos) (vCall dzD f) :=
  viaE (pe_dictZip hc hgd hmd hgz hmz ha hs hpl hs1 hpl1) fun σ H Q ⟨m, en, h, R, E, p⟩ => ⟨m, en, h, R, E, Po.imp (Po.bind (rel := RDs X.Kw) p) fun vs H1 ⟨m1, ds, h1, x1, R1, rs, p1⟩ => by
    unfold dzD at p1
    split at p1
    · split at p1
      · rename_i xs o ys o' el el2
        obtain ⟨hk, p1⟩ := p_if p1
        cases rs with
        | cons r rs =>
          cases rs with
          | cons r2 rs =>
            cases rs
            obtain ⟨a, vs, rfl, q, rv⟩ := lstOf_now R1 r el
            obtain ⟨b, us, rfl, q2, ru⟩ := lstOf_now R1 r2 el2
            obtain ⟨kvs, k1, k2, k3⟩ := rkv_zip rv ru hk
            refine ⟨a, b, vs, us, kvs, rfl, q, q2, k2, k3, fun l hl => ?_⟩
            exact p1 (m1 ++ [l]) _ _ (Ext.push hl) (R1.push hl ⟨_, upd_same, (rkv_put k1 .nil).mono (Ext.push hl).e⟩) (.ref (by rw [← R1.len, List.getElem?_concat_length]))
      · exact p1.elim
    · exact p1.elim⟩
end Mi

namespace Mi
open PySem PySem.Spec PyProof.Rows L2

/-! ### a dict that is walked: it is locked meanwhile -/
theorem fdc_look {K : KW} {m : List Addr} {H : Hp} {h : Hst} {n : Nat} {a : Addr} {tk : Bool} {kvs : List (D × D)} (R : RH K m H h) (ha : m[n]? = some a) (e : h[n]? = some (.fdc tk kvs)) : ∃ f u, H a = some (.frz f u) := by
  cases tk with
  | false => obtain ⟨f, ws, q, _⟩ := R.look ha e; exact ⟨f, _, q⟩
  | true => obtain ⟨f, ws, q, _⟩ := R.look ha e; exact ⟨f, _, q⟩
/-- the dict at n is locked -/
theorem RH.lock {K : KW} {m : List Addr} {H : Hp} {h : Hst} {n : Nat} {a : Addr} {tk : Bool} {kvs : List (D × D)} (R : RH K m H h) (ha : m[n]? = some a) (e : h[n]? = some (.dic tk kvs)) :
    ∃ u, H a = some u ∧ Mut (some u) ∧ ∀ od, RH K m (upd H a (.frz od u)) (h.set n (.fdc tk kvs)) ∧
      ∀ m' H' h', Ext K m (upd H a (.frz od u)) m' H' → RH K m' H' h' → H' a = some (.frz od u) ∧ Ext K m H m' (upd H' a u) ∧ RH K m' (upd H' a u) (h'.set n (.dic tk kvs)) ∧ Ex0 K m' H' m' (upd H' a u) := by
  have hm : a ∈ m := List.mem_of_getElem? ha
  have main : ∀ (u : HO), H a = some u → Mut (some u) → (∀ od, Wr (some (.frz od u))) → (∀ od, RO K m (upd H a (.frz od u)) a (.fdc tk kvs)) → (∀ m' H' od, Ext K m (upd H a (.frz od u)) m' H' → Ex0 K m H m' (upd H' a u) → RO K m' (upd H' a u) a (.dic tk kvs)) →
      ∃ u, H a = some u ∧ Mut (some u) ∧ ∀ od, RH K m (upd H a (.frz od u)) (h.set n (.fdc tk kvs)) ∧
      ∀ m' H' h', Ext K m (upd H a (.frz od u)) m' H' → RH K m' H' h' → H' a = some (.frz od u) ∧ Ext K m H m' (upd H' a u) ∧ RH K m' (upd H' a u) (h'.set n (.dic tk kvs)) ∧ Ex0 K m' H' m' (upd H' a u) := by
    intro u hu mu wr ro back
    refine ⟨u, hu, mu, fun od => ⟨R.write ha (by rw [hu]; exact mu) (ro od), fun m' H' h' x R' => ?_⟩⟩
    have q : H' a = some (.frz od u) := x.frz a od u upd_same
    have ne : ∀ b o, H b = some o → ¬ Mut (some o) → b ≠ a := fun b o z nm y => by subst y; rw [hu] at z; cases z; exact nm mu
    have nf : ∀ b o, H' b = some o → (∀ f v, o ≠ .frz f v) → b ≠ a := fun b o z nm y => by subst y; rw [q] at z; cases z; exact nm _ _ rfl
    have e0 : Ex0 K m' H' m' (upd H' a u) := Ex0.write (by rw [q]; exact wr od)
    have X : Ext K m H m' (upd H' a u) := by
      refine ⟨x.pre, fun b vs z => e0.tup b vs (x.tup b vs ?_), fun b vs z => e0.sl b vs (x.sl b vs ?_), fun b vs z => e0.xd b vs (x.xd b vs ?_), fun b f v z => ?_, fun b o z nm => ?_, fun b hb => ?_⟩
      · rw [upd_ne (ne b _ z (fun y => y))]; exact z
      · rcases z with ⟨o, z⟩ | z
        · exact .inl ⟨o, by rw [upd_ne (ne b _ z (fun y => y))]; exact z⟩
        · exact .inr z
      · rw [upd_ne (ne b _ z (fun y => y))]; exact z
      · have nb := ne b _ z (fun y => y)
        rw [upd_ne nb]
        exact x.frz b f v (by rw [upd_ne nb]; exact z)
      · have nb : b ≠ a := fun y => by subst y; exact nm hm
        rw [upd_ne nb]
        exact x.frm b o (by rw [upd_ne nb]; exact z) nm
      · rcases x.new b hb with z | z
        · exact .inl z
        · by_cases y : b = a
          · subst y; exact .inl hm
          · rw [upd_ne y] at z; exact .inr z
    exact ⟨q, X, R'.writeW (x.pre n a ha) (by rw [q]; exact wr od) (back m' H' od x X.e), e0⟩
  cases tk with
  | false =>
    obtain ⟨ws, q, r⟩ := R.look ha e
    exact main (.dK ws) q trivial (fun _ => trivial) (fun od => ⟨od, ws, upd_same, r.mono (Ex0.write (wr_of (.inr (by rw [q]; trivial))))⟩) fun m' H' od x x2 => ⟨ws, upd_same, r.mono x2⟩
  | true =>
    obtain ⟨ws, q, r⟩ := R.look ha e
    exact main (.dT ws) q trivial (fun _ => trivial) (fun od => ⟨od, ws, upd_same, r.mono (Ex0.write (wr_of (.inr (by rw [q]; trivial))))⟩) fun m' H' od x x2 => ⟨ws, upd_same, r.mono x2⟩
/-- which object is locked -/
abbrev Lo := En → Hst → Option Nat
def lVar (i : Nat) : Lo := fun en _ => match en[i]? with
  | some (some (.ref n)) => some n
  | _ => none
def lockR {α : Type} (r : Res α) (n : Nat) (tk : Bool) (kvs : List (D × D)) : Res α := match r with
  | .ok d h' => .ok d (h'.set n (.dic tk kvs))
  | _ => .bad
def vLock (l : Lo) (f : Ev) : Ev := fun en h => match l en h with
  | some n => match h[n]? with
    | some (.dic tk kvs) => lockR (f en (h.set n (.fdc tk kvs))) n tk kvs
    | _ => .bad
  | none => .bad
def lockS (r : SR) (n : Nat) (tk : Bool) (kvs : List (D × D)) : SR := match r with
  | .nx en h' => .nx en (h'.set n (.dic tk kvs))
  | .rt d h' => .rt d (h'.set n (.dic tk kvs))
  | .bk en h' => .bk en (h'.set n (.dic tk kvs))
  | .ct en h' => .ct en (h'.set n (.dic tk kvs))
  | .err x en h' => .err x en h'
  | .bad => .bad
def sLock (l : Lo) (f : Sm) : Sm := fun en h => match l en h with
  | some n => match h[n]? with
    | some (.dic tk kvs) => lockS (f en (h.set n (.fdc tk kvs))) n tk kvs
    | _ => .bad
  | none => .bad
theorem REn.mono0 {K : KW} {m m1 : List Addr} {H H1 : Hp} {en : En} {σ : L2.St} (x : Ex0 K m H m1 H1) (E : REn K m H en σ) : REn K m1 H1 en σ := ⟨E.1, fun i d e => let ⟨v, h, r⟩ := E.2 i d e; ⟨v, h, r.mono x⟩⟩
section
variable {X : Cx} {W : WX} {e : Expr} {st : Stmt} {l : Lo} {f : Ev} {g : Sm}
theorem rd_lock {K : KW} : ∀ σ H Q, RdE K W (vLock l f) σ H Q → tLockE (RdE K W f) σ H Q := by
  rintro σ H Q ⟨m, en, h, R, E, p⟩
  unfold vLock at p
  split at p
  · rename_i n hn
    split at p
    · rename_i tk kvs e
      obtain ⟨a, ha, _⟩ := R.at_ n _ e
      obtain ⟨u, hu, mu, lk⟩ := R.lock ha e
      refine ⟨a, u, hu, mu, fun od => ?_⟩
      obtain ⟨R1, bk⟩ := lk od
      refine ⟨m, en, _, R1, E.mono0 (Ex0.write (wr_of (.inr (by rw [hu]; exact mu)))), ?_⟩
      cases ef : f en (h.set n (.fdc tk kvs)) with
      | ok d h' =>
        rw [ef] at p
        intro m' H' v x R' r
        obtain ⟨q, x2, R2, x3⟩ := bk m' H' h' x R'
        exact ⟨q, p m' _ v x2 R2 (r.mono x3)⟩
      | err x h' => rw [ef] at p; exact p.elim
      | bad => rw [ef] at p; exact p.elim
    · exact p.elim
  · exact p.elim
theorem se_lock (h : SE X W e f) : SE X W e (vLock l f) := viaE (pe_lock h) rd_lock
theorem rdS_lock {K : KW} : ∀ D σ H, RdS K W (sLock l g) D σ H → tLock (RdS K W g) D σ H := by
  rintro D σ H ⟨m, en, h, R, E, p⟩
  unfold sLock at p
  split at p
  · rename_i n hn
    split at p
    · rename_i tk kvs e
      obtain ⟨a, ha, _⟩ := R.at_ n _ e
      obtain ⟨u, hu, mu, lk⟩ := R.lock ha e
      refine ⟨a, u, hu, mu, fun od => ?_⟩
      obtain ⟨R1, bk⟩ := lk od
      refine ⟨m, en, _, R1, E.mono0 (Ex0.write (wr_of (.inr (by rw [hu]; exact mu)))), ?_⟩
      have hm : a ∈ m := List.mem_of_getElem? ha
      have ne : ∀ b o, H b = some o → ¬ Mut (some o) → b ≠ a := fun b o z nm y => by subst y; rw [hu] at z; cases z; exact nm mu
      have up : ∀ m' H', Ext K m (upd H a (.frz od u)) m' H' → Ext K m H m' H' := fun m' H' x =>
        ⟨x.pre, fun b vs z => x.tup b vs (by rw [upd_ne (ne b _ z (fun y => y))]; exact z), fun b vs z => x.sl b vs (by
          rcases z with ⟨o, z⟩ | z
          · exact .inl ⟨o, by rw [upd_ne (ne b _ z (fun y => y))]; exact z⟩
          · exact .inr z), fun b vs z => x.xd b vs (by rw [upd_ne (ne b _ z (fun y => y))]; exact z), fun b f v z => x.frz b f v (by rw [upd_ne (ne b _ z (fun y => y))]; exact z), fun b o z nm => x.frm b o (by rw [upd_ne (fun y => by subst y; exact nm hm)]; exact z) nm, fun b hb => by
          rcases x.new b hb with z | z
          · exact .inl z
          · by_cases y : b = a
            · subst y; exact .inl hm
            · rw [upd_ne y] at z; exact .inr z⟩
      cases ef : g en (h.set n (.fdc tk kvs)) with
      | nx en' h' =>
        rw [ef] at p
        intro m' H' σ' x R' E'
        obtain ⟨q, x2, R2, x3⟩ := bk m' H' h' x R'
        exact ⟨q, p m' _ σ' x2 R2 (E'.mono0 x3)⟩
      | bk en' h' =>
        rw [ef] at p
        intro m' H' σ' x R' E'
        obtain ⟨q, x2, R2, x3⟩ := bk m' H' h' x R'
        exact ⟨q, p m' _ σ' x2 R2 (E'.mono0 x3)⟩
      | ct en' h' =>
        rw [ef] at p
        intro m' H' σ' x R' E'
        obtain ⟨q, x2, R2, x3⟩ := bk m' H' h' x R'
        exact ⟨q, p m' _ σ' x2 R2 (E'.mono0 x3)⟩
      | rt d h' =>
        rw [ef] at p
        intro m' H' v x R' r
        obtain ⟨q, x2, R2, x3⟩ := bk m' H' h' x R'
        exact ⟨q, p m' _ v x2 R2 (r.mono x3)⟩
      | err xx en' h' =>
        rw [ef] at p
        exact fun m' H' σ' c d x R' E' rx => p m' H' σ' c d (up m' H' x) R' E' rx
      | bad => rw [ef] at p; exact p.elim
    · exact p.elim
  · exact p.elim
theorem ss_lock (h : SS X W st g) : SS X W st (sLock l g) := viaS (ps_lock h) rdS_lock
/-! ### what is walked -/
theorem rkv_at {K : KW} {m : List Addr} {H : Hp} {κ : Type} {kd : D → Option κ} : ∀ {kvs : List (D × D)} {ws : List (κ × V)}, RKV K m H kd kvs ws → ∀ {i : Nat} {p : D × D}, kvs[i]? = some p → ∃ c v, ws[i]? = some (c, v) ∧ kd p.1 = some c ∧ KG p.1 ∧ RD K m H p.2 v
  | _, _, .nil, _, _, e => by simp at e
  | _, _, .cons (c := c) (v := v) hk r _, 0, p, e => by simp at e; subst e; exact ⟨c, v, rfl, hk.1, hk.2, r⟩
  | _, _, .cons _ _ rs, i + 1, p, e => by
    obtain ⟨c, v, h⟩ := rkv_at rs (i := i) (by simpa using e)
    exact ⟨c, v, by simpa using h.1, h.2⟩
/-- the locked dict that an expression gives -/
def fdcD (d : D) (h : Hst) : Option (Nat × Bool × List (D × D)) := match d with
  | .ref n => match h[n]? with
    | some (.fdc tk kvs) => some (n, tk, kvs)
    | _ => none
  | _ => none
def iKeyD (f : Ev) : EvI := fun en h => (f en h).bind fun d h1 => match fdcD d h1 with
  | some (n, tk, kvs) => .ok (kvs.map (·.1), .dic n tk kvs) h1
  | none => .bad
theorem fdcD_ok {d : D} {h : Hst} {n : Nat} {tk : Bool} {kvs : List (D × D)} (e : fdcD d h = some (n, tk, kvs)) : d = .ref n ∧ h[n]? = some (.fdc tk kvs) := by
  unfold fdcD at e
  split at e
  · split at e
    · rename_i he
      cases e
      exact ⟨rfl, he⟩
    · cases e
  · cases e
theorem wk_keys {K : KW} {m : List Addr} {H : Hp} {n : Nat} {a : Addr} {f : Obj} {ws : List (Key × V)} {kvs : List (D × D)} (ha : m[n]? = some a) (q : H a = some (.frz f (.dK ws))) : Wk K (Itk a f ws) m H (kvs.map (·.1)) (.dic n false kvs) := by
  intro m' H' h' x R c
  obtain ⟨f', ws', q', r⟩ := R.look (x.pre _ _ ha) (show h'[n]? = some (.fdc false kvs) from c)
  have q2 := x.frz a f _ q
  rw [q'] at q2
  cases q2
  refine ⟨fun i d e => ?_, q', by rw [List.length_map, RKV.length r]; exact Nat.le_refl _⟩
  rw [List.getElem?_map] at e
  obtain ⟨p, hp, rfl⟩ := Option.map_eq_some_iff.mp e
  obtain ⟨c, v, e1, e2, e3, e4⟩ := rkv_at r hp
  refine ⟨⟨q', (List.getElem?_eq_some_iff.mp e1).1⟩, fun u H'' y => ?_⟩
  obtain ⟨rfl, k, v', y1, rfl⟩ := y
  rw [e1] at y1
  cases y1
  exact ⟨m', .refl, R, key_rd e2 (by cases hp1 : p.1 <;> rw [hp1] at e3 e2 <;> first | exact e3 | trivial | (simp [keyD] at e2))⟩
theorem wk_keysT {K : KW} {m : List Addr} {H : Hp} {n : Nat} {a : Addr} {f : Obj} {ws : List (List Key × V)} {kvs : List (D × D)} (ha : m[n]? = some a) (q : H a = some (.frz f (.dT ws))) : Wk K (Itkt a f ws) m H (kvs.map (·.1)) (.dic n true kvs) := by
  intro m' H' h' x R c
  obtain ⟨f', ws', q', r⟩ := R.look (x.pre _ _ ha) (show h'[n]? = some (.fdc true kvs) from c)
  have q2 := x.frz a f _ q
  rw [q'] at q2
  cases q2
  refine ⟨fun i d e => ?_, q', by rw [List.length_map, RKV.length r]; exact Nat.le_refl _⟩
  rw [List.getElem?_map] at e
  obtain ⟨p, hp, rfl⟩ := Option.map_eq_some_iff.mp e
  obtain ⟨c, v, e1, e2, e3, e4⟩ := rkv_at r hp
  refine ⟨⟨q', (List.getElem?_eq_some_iff.mp e1).1⟩, fun u H'' y => ?_⟩
  obtain ⟨rfl, k, v', b, y1, rfl, y2⟩ := y
  rw [e1] at y1
  cases y1
  refine ⟨m', .refl, R, ?_⟩
  cases hp1 : p.1 with
  | tup ds =>
    rw [hp1] at e2 e3
    exact .tup e3.1 y2 (keys_rd e2 e3.2)
  | _ => rw [hp1] at e2; simp [tkeyD] at e2
theorem si_keys {tg : Expr} (hl : SE X W e f) : SI X W tg e (iKeyD f) :=
  viaI (pi_keys hl) fun σ H R ⟨m, en, h, Rh, E, q⟩ => ⟨m, en, h, Rh, E, Po.imp (PoI.bind (rel := RD X.Kw) q) fun v H1 ⟨m1, d, h1, x1, R1, r1, p1⟩ => by
    split at p1
    · rename_i n tk kvs ef
      obtain ⟨rfl, eh⟩ := fdcD_ok ef
      cases r1 with
      | ref ha =>
        cases tk with
        | false =>
          obtain ⟨fo, ws, q, _⟩ := R1.look ha eh
          exact ⟨_, fo, rfl, .inl ⟨ws, q, p1 m1 H1 _ .refl R1 (wk_keys ha q)⟩⟩
        | true =>
          obtain ⟨fo, ws, q, _⟩ := R1.look ha eh
          exact ⟨_, fo, rfl, .inr ⟨ws, q, p1 m1 H1 _ .refl R1 (wk_keysT ha q)⟩⟩
    · exact p1.elim⟩
end
end Mi

namespace PySem
namespace Supname
open PySem.W PySem.Calls PyProof.Rows PySem.HandSPX
/-! ### the text of __init__ -/
def iA (p1 p2 : Pos) : Arguments := { posonlyargs := [], args := [{ arg := "self", annotation := none, pos := p1 }, { arg := "name", annotation := none, pos := p2 }], vararg := none, kwonlyargs := [], kw_defaults := [], kwarg := none, defaults := [] }
def iB (m : Str) (j : Nat) (q1 q2 q3 q4 q5 q6 q7 q8 q9 qa : Pos) : List Stmt := [.Expr (.Call (.Attribute (.Call (.Name "super" q1) [] [] q2) "__init__" q3) [.Constant (.str m) j q4] [] q5) q6, .Assign [.Attribute (.Name "self" q7) "name" q8] (.Name "name" q9) qa]
def iS : Scope := { kind := .function, names := [(PySem.Str.ofString "self", .local), (PySem.Str.ofString "name", .local), (PySem.Str.ofString "__class__", .free), (PySem.Str.ofString "super", .globalImplicit)], isGenerator := false, isCoroutine := false, more := [] }
/-- what the written part says of the class at C, of its __init__, at fI, of the class at D that this is written in -/
structure Txt (P : Program) (K : Frag) (C fI D cc cda : Addr) : Prop where
  cls : ∃ nm q N bs bm sn sub ab col dd k0 k1 k2 k3 k5, K.lookup C = some (excClassObj nm q C N bs bm true sn sub ab col dd k0 k1 k2 k3 k5 "ValueError.__new__") ∧ refsVE bm = true
  sa : findIn K (.ref C) "__setattr__" = some (some (.builtin "object.__setattr__"))
  noN : findIn K (.ref C) "name" = some none
  iC : findIn K (.ref C) "__init__" = some (some (.ref fI))
  tC : typeIn K (.ref fI) = some (.type "function")
  kC : keepIn K (.ref C) = true
  exC : subIn K (.ref C) (.type "BaseException") = some true
  tyC : typeIn K (.ref C) = some (.type "type")
  fn : ∃ (qual m : Str) (j : Nat) (oc : Value) (od : Option Addr) (doc pm : Value) (an : Option Addr) (ct : Value) (osl : Array (Option Value)) (p1 p2 q1 q2 q3 q4 q5 q6 q7 q8 q9 qa : Pos),
    K.lookup fI = some ⟨oc, od, .func (ksFn "__init__" qual (iA p1 p2) (iB m j q1 q2 q3 q4 q5 q6 q7 q8 q9 qa) iS .none .none doc pm an (.ref cda) ct cc), osl⟩ ∧ codeIn K (.ref cda) qual = true ∧
    ∀ env : Env, ∃ pl : Sem Bool, eval (.Call (.Attribute (.Call (.Name "super" q1) [] [] q2) "__init__" q3) [.Constant (.str m) j q4] [] q5) env = (do
      let ov ← attributeBase (.Call (.Name "super" q1) [] [] q2) "__init__" env (eval (.Call (.Name "super" q1) [] [] q2) env)
      standAt q3.atName
      let (f, first) ← holding [ov] (getMethod ov "__init__" pl)
      callWith q5 f first (backTo q5 (starEach [.Constant (.str m) j q4] env)) [])
  code : ∃ (cl : Value) (dd : Option Addr) (vs : Array Value) (sl : Array (Option Value)) (file : Str) (tf : Tok), K.lookup cda = some ⟨cl, dd, .fields vs, sl⟩ ∧ vs[2]? = some (.str file tf) ∧ ((P.main.file : Str) == file) = true
  cell : ∃ (cl : Value) (dd : Option Addr) (sl : Array (Option Value)), K.lookup cc = some ⟨cl, dd, .cell (some (.ref D)), sl⟩
  clD : (clsIn K D).isSome = true
  sub : mroIn K C (.ref D) = some true
  sup : ks_superIn K C D "__init__" = some (some (.builtin "ValueError.__init__"))
  ve : subIn K (.ref C) (.type "ValueError") = some true
  tp : nsIn K cStatics "thirdparty.any" = some none
  top : (P.main.scope.names.lookup ("super" : Str)).isSome = false
theorem one_size (v : Value) : [v].length ≤ sizeLine := by
  rw [sizeLine_eq]
  exact (by decide : 1 ≤ 16777216)
theorem ldC {M : Model} {s : Shared} {env : Env} {m : Str → Option Value} {x : Str} {pos : Pos} {v : Value} {Q : Value → Shared → Prop} {A : Around} {E : Value → Shared → Prop} (hn : s.heap.Ns env.locals m) (hv : m x = some v) (h : Q v s)
    (hk : env.scope.kind = .function := by rfl) (hl : env.kindOf x = some .local := by rfl) (hd : (x == ("__debug__" : Str)) = false := by decide) :
    wpAny M A (eval (.Name x pos) env) Q E s := wpAny_Name (wpAny_loadName_local hk hl hn hv h) hd
/-- what __init__ leaves of a fresh exception at x -/
structure InitEnd (h h' : Heap) (x C dx t1 : Addr) (v : Value) : Prop where
  keep : ∀ b o, b ≠ x → h.get? b = some o → h'.get? b = some o
  obj : h'.get? x = some { cls := .ref C, dict := some dx, data := .fields #[.ref t1, .none, .none, .none, .bool false, .none] }
  dbig : h.objs.size ≤ dx
  dne : dx ≠ x
  ns : h'.Ns1 dx (fun y => if y = "name" then some v else none)
/-- a made one -/
structure OwnMade (h h' : Heap) (e C d : Addr) (v : Value) : Prop where
  keep : ∀ b o, h.get? b = some o → h'.get? b = some o
  new : h.objs.size ≤ e
  obj : ∃ oe vs, h'.get? e = some oe ∧ oe.cls = .ref C ∧ oe.dict = some d ∧ oe.data = .fields vs ∧ vs[1]? = some .none
  dbig : h.objs.size ≤ d
  dne : d ≠ e
  ns : h'.Ns1 d (fun y => if y = "name" then some v else none)
section
variable {prog : Program} {w : World} {A : Around} {E : Value → Shared → Prop} {R : Result → Shared → Prop} {s : Shared} {K : Frag} {mg mb : Str → Option Value} {C fI D cc cda : Addr}
theorem call_mw {h : Heap} {g : Array GenState} {d : Drawn} {t : Nat} {os : OsState} {nm q : Str} {N : Addr} {bs bm : List Value} {hdct : Bool} {sn : List Str} {sub : List Value} {ab : Bool} {col : Option Bool} {dd : Option Addr} {k0 k1 k2 k3 k5 : Option Value} {u e t0 : Addr} {rest : List Value} {Q : Value → Shared → Prop}
    (hC : h.get? C = some (excClassObj nm q C N bs bm hdct sn sub ab col dd k0 k1 k2 k3 k5 "ValueError.__new__")) (he : h.get? e = some (excO C t0)) (hu : h.get? u = some (kxs_mw "ValueError.__init__" e)) (hrest : rest.length ≤ sizeLine)
    (hq : ∀ h' t1, (∀ b o, b ≠ e → h.get? b = some o → h'.get? b = some o) → h'.get? e = some (excO C t1) → Q .none ⟨h', g, d, t, os⟩) :
    wpAny (model prog w) A (call (.ref u) rest) Q E ⟨h, g, d, t, os⟩ := by
  refine wpAny_call (codeAny_of_tree ?_)
  show wpAny _ A.in1 (callAny (.ref u) ⟨rest, []⟩) _ _ _
  simp only [callAny]
  refine wpAny_bind (wpAny_load hu ?_)
  simp only [kxs_mw, show (Value.type "method-wrapper" == Value.type "method" || Value.type "method-wrapper" == Value.type "builtin_function_or_method" || Value.type "method-wrapper" == Value.type "method-wrapper") = true by decide, if_true]
  refine W.KFB.if_so (by decide) ?_
  refine wpAny_bind (check_bound_init F.excBase_ValueError.toExcCallFacts hC he rfl ?_)
  refine wpAny_bind (wpAny_pure (wpAny_pure ?_))
  refine ⟨plainId_quiet F.excBase_ValueError.init.plain _, codeAny_builtin F.excBase_ValueError.initEntry ?_⟩
  exact exc_init_tree (cls := .ref C) (t0 := t0) (dv := none) (c2 := .none) (c3 := .none) (b4 := .bool false) he hrest fun h' k e' t' => hq h' _ k e'
theorem sup_init (T : Txt prog K C fI D cc cda) {x t0 : Addr} {v : Value} (X : K.In s.heap) (hg : s.heap.Ns mainGlobals mg) (hm : mg "super" = none) (hb : s.heap.Ns builtinsNs mb) (hs : mb "super" = some (.type "super")) (hlim : s.heap.NoLimit) (hx : s.heap.get? x = some (excO C t0)) (hnx : K.lookup x = none) (hroom : A.depth < recursionLimit)
    (hq : ∀ h' tk dx t1, InitEnd s.heap h' x C dx t1 v → R (.ok (.ret .none)) { s with heap := h', toks := tk }) :
    codeAny (model prog w) A (.call (.ref fI) ⟨[.ref x, v], []⟩) R s := by
  obtain ⟨qual, m, j, oc, od, doc, pm, an, ct, osl, p1, p2, q1, q2, q3, q4, q5, q6, q7, q8, q9, qa, ho, hcd, hev⟩ := T.fn
  obtain ⟨nm, q, N, bs, bm, sn, sub, ab, col, dd, k0, k1, k2, k3, k5, hC, hbm⟩ := T.cls
  have hcl : clsIn K C = some { name := nm, bases := bs, mro := .ref C :: bm, ns := N, qualname := q, hasDict := true, slotNames := sn, subclasses := sub, abstract := ab, collection := col, hasDel := false } := by unfold clsIn; rw [hC] <;> rfl
  obtain ⟨hp, g, d, t, os⟩ := s
  refine ks_codeAny_call_defAt (fd := ksFn "__init__" qual (iA p1 p2) (iB m j q1 q2 q3 q4 q5 q6 q7 q8 q9 qa) iS .none .none doc pm an (.ref cda) ct cc) (body := iB m j q1 q2 q3 q4 q5 q6 q7 q8 q9 qa) (binds := [("self", .ref x), ("name", v)]) hroom (X _ _ ho) rfl hlim (codeRec_of X hcd) rfl (BindsTo.of_eq (by first | rfl | with_unfolding_all rfl)) (show ∀ z ∈ iS.names, z.2 ≠ .cell by decide) (fun y hy => by
    simp only [List.mem_cons, List.not_mem_nil, or_false] at hy
    rcases hy with rfl | rfl <;> rfl) (fun h₁ hns k => ?_) rfl rfl rfl
  have X₁ : K.In h₁ := X.keeps k
  have hx₁ := k _ _ hx
  have hxL : hp.objs.size ≠ x := Nat.ne_of_gt (Heap.lt_size hx)
  have g₁ := hg.keeps k
  have b₁ := hb.keeps k
  obtain ⟨ccl, cdd, vs, csl, file, tf, hcode, hvs, hfile⟩ := T.code
  obtain ⟨ccl2, cdd2, csl2, hcell⟩ := T.cell
  obtain ⟨oD, cdD, hD1, hD2⟩ : ∃ oD cdD, h₁.get? D = some oD ∧ oD.data = .cls cdD := by
    obtain ⟨cd, hD⟩ := Option.isSome_iff_exists.mp T.clD
    unfold clsIn at hD
    split at hD
    · rename_i c d cd' sl ho
      exact ⟨_, _, X₁ _ _ ho, rfl⟩
    · cases hD
  obtain ⟨pl, hev⟩ := hev (callEnv (ksFn "__init__" qual (iA p1 p2) (iB m j q1 q2 q3 q4 q5 q6 q7 q8 q9 qa) iS .none .none doc pm an (.ref cda) ct cc) hp.objs.size fI)
  refine ks_wpAt_execs_cons (ks_wpAt_Expr_any (ks_wpAt_MethodCall (pl := pl) ?_ hev))
  refine ks_wpAt_super_base (env := callEnv (ksFn "__init__" qual (iA p1 p2) (iB m j q1 q2 q3 q4 q5 q6 q7 q8 q9 qa) iS .none .none doc pm an (.ref cda) ct cc) hp.objs.size fI) rfl rfl (by decide) rfl (X₁ _ _ ho) rfl rfl rfl (X₁ _ _ hcode) rfl hvs hfile T.top ?_
  refine ks_loadName_global rfl rfl (loadGlobal_builtin g₁ hm b₁ hs ⟨rfl, ?_⟩)
  refine wpAny_loadName_free rfl rfl rfl ⟨_, X₁ _ _ hcell, rfl⟩ ?_
  refine wpAny_loadName_local rfl rfl hns (by first | rfl | with_unfolding_all rfl | kernel_rfl) ?_
  refine ks_wpAny_isType_cls hD1 hD2 ⟨rfl, ?_⟩
  refine ks_wpAny_call_super hD1 hD2 hx₁ rfl (fun c e => by cases e) (looks_mroIn X₁ T.sub) (fun h₂ e₂ k₂ => ?_)
  have X₂ : K.In h₂ := X₁.keeps k₂
  have hx₂ := k₂ _ _ hx₁
  have I₂ : InstAt h₂ x (excO C t0) C none := ⟨hx₂, rfl, rfl, trivial⟩
  have hsup : alongIn K "__init__" (((Value.ref C :: bm).dropWhile (· != .ref D)).drop 1) = some (some (.builtin "ValueError.__init__")) := by
    have z := T.sup
    unfold ks_superIn at z
    rw [hcl] at z
    exact z
  refine kxs_getMethod kxs_ValueError e₂ (looks_opaque X₂ T.tp) (l₀ := .ref C :: bm) (fun A Q E s k q => wpAny_bind ((looks_clsIn X₂ hcl) A _ E s k (wpAny_pure q))) rfl X₂ hsup (I₂.type.andThen (looks_subIn X₂ T.ve)) (ks_ne X₂ I₂ hcl) (by decide) ?_
  have hsz₂ : x ≠ h₂.objs.size := Nat.ne_of_lt (Heap.lt_size hx₂)
  have kp : ∀ b o, h₂.get? b = some o → (h₂.push (kxs_mw "ValueError.__init__" x)).get? b = some o := fun b o e => Heap.get?_push_of_some _ e
  show wpAny _ _ (callWith q5 (.ref h₂.objs.size) [] (backTo q5 (starEach [.Constant (.str m) j q4] _)) []) _ _ _
  refine kxs_callWith (i := "ValueError.__init__") (x := x) rfl ?_
  refine evalArgs_plain (PyProof.Rows.spliced_more (wpAny_Constant_str (PyProof.Rows.spliced_none ?_)))
  refine ⟨Heap.get?_push_at rfl rfl, ?_⟩
  show wpAny _ _ (call (.ref h₂.objs.size) [.str m _]) _ _ _
  have hC₂ : (h₂.push (kxs_mw "ValueError.__init__" x)).get? C = some (excClassObj nm q C N bs bm true sn sub ab col dd k0 k1 k2 k3 k5 "ValueError.__new__") := kp _ _ (X₂ _ _ hC)
  refine call_mw hC₂ (kp _ _ hx₂) (Heap.get?_push_at rfl rfl) (one_size _) fun h₃ t₃ k₃ hx₃ => ?_
  have K₃ : ∀ b o, b ≠ x → hp.get? b = some o → h₃.get? b = some o := fun b o hb e => k₃ b o hb (kp _ _ (k₂ _ _ (k _ _ e)))
  have X₃ : K.In h₃ := fun a o e => K₃ a o (fun z => by rw [z, hnx] at e; cases e) (X _ _ e)
  obtain ⟨oL, es, ep, hL, hrest⟩ := hns
  have hns₃ : h₃.Ns hp.objs.size (fun y => List.lookup y [(PySem.Str.ofString "self", Value.ref x), (PySem.Str.ofString "name", v)].reverse) := ⟨oL, es, ep, k₃ _ _ hxL (kp _ _ (k₂ _ _ hL)), hrest⟩
  have zL : hp.objs.size < h₃.objs.size := hns₃.lt
  dsimp only
  refine ks_wpAt_execs_cons (ks_wpAt_Assign_Attr ?_)
  refine wpAt_of_wpAny ?_
  refine ldC hns₃ (by first | rfl | with_unfolding_all rfl | kernel_rfl) (ldC hns₃ (by first | rfl | with_unfolding_all rfl | kernel_rfl) ?_)
  refine set_plain X₃ (ox := excO C t₃) (od := none) ⟨hx₃, rfl, rfl, trivial⟩ T.sa ?_
  refine exc_osa X₃ hx₃ hcl (show refsVE (.ref C :: bm) = true from hbm) rfl T.noN (fun h₄ tk₄ dx k₄ dn dne hx₄ hn₄ => ?_)
  dsimp only
  refine wpAt_of_wpAny (wpAny_execs_nil (hq h₄ tk₄ dx t₃ ⟨fun b o hb e => k₄ b o hb (K₃ b o hb e), hx₄, Nat.le_of_lt (Nat.lt_of_lt_of_le zL dn), dne, hn₄⟩))
end
section
variable {prog : Program} {w : World} {A : Around} {E : Value → Shared → Prop} {R : Result → Shared → Prop} {s : Shared} {K : Frag} {mg mb : Str → Option Value} {C fI D cc cda : Addr}
theorem sup_made (T : Txt prog K C fI D cc cda) {v : Value} (X : K.In s.heap) (hg : s.heap.Ns mainGlobals mg) (hm : mg "super" = none) (hb : s.heap.Ns builtinsNs mb) (hs : mb "super" = some (.type "super")) (hlim : s.heap.NoLimit) (hroom : A.depth + 1 < recursionLimit)
    (hq : ∀ h' tk e d, OwnMade s.heap h' e C d v → R (.ok (.ret (.ref e))) { s with heap := h', toks := tk }) :
    codeAny (model prog w) A (.call (.ref C) ⟨[v], []⟩) R s := by
  obtain ⟨nm, q, N, bs, bm, sn, sub, ab, col, dd, k0, k1, k2, k3, k5, hC, hbm⟩ := T.cls
  obtain ⟨hp, g, dr, tk, os⟩ := s
  have k : ∀ b o, hp.get? b = some o → ((hp.push (kdv_tup [v])).push (excO C hp.objs.size)).get? b = some o := fun b o e => Heap.get?_push_of_some _ (Heap.get?_push_of_some _ e)
  have hget : ((hp.push (kdv_tup [v])).push (excO C hp.objs.size)).get? (hp.objs.size + 1) = some (excO C hp.objs.size) := by heap_get
  have hnx : K.lookup (hp.objs.size + 1) = none := by
    cases e : K.lookup (hp.objs.size + 1) with
    | none => rfl
    | some o =>
      have z : hp.get? (hp.objs.size + 1) = some o := X _ _ e
      exact absurd (Nat.lt_of_succ_lt (Heap.lt_size z)) (Nat.lt_irrefl _)
  refine call_own F.excBase_ValueError (fun X => refsVE_contains X bm hbm) (X _ _ hC) (looks_findIn X T.iC) (fun self => bind_fn X self T.tC) (one_size v) ?_
  refine sup_init (s := ⟨(hp.push (kdv_tup [v])).push (excO C hp.objs.size), g, dr, tk, os⟩) T (X.keeps k) (hg.keeps k) hm (hb.keeps k) hs (hlim.keeps k) hget hnx ?_ fun h' tk' dx t1 ⟨k', hx, dn, dne, hns⟩ => ?_
  · show A.depth + 1 < recursionLimit
    exact hroom
  · have old : ∀ b o, hp.get? b = some o → h'.get? b = some o := fun b o e => k' b o (Nat.ne_of_lt (Nat.lt_succ_of_lt (Heap.lt_size e))) (k b o e)
    have z : hp.objs.size + 1 + 1 ≤ dx := by
      first
        | (simpa only [Heap.size_push] using dn)
        | exact dn
        | (have q := dn; rw [Heap.size_push, Heap.size_push] at q; exact q)
    exact ⟨rfl, hq h' tk' (hp.objs.size + 1) dx ⟨old, Nat.le_succ _, ⟨_, _, hx, rfl, rfl, rfl, rfl⟩, Nat.le_trans (Nat.le_trans (Nat.le_succ _) (Nat.le_succ _)) z, dne, hns⟩⟩
end
end Supname
end PySem
namespace PySem
namespace Supat
open PySem.W PySem.Calls PyProof.Rows PySem.HandSPX
/-! ### the text of __init__ -/
def iA (p1 p2 : Pos) : Arguments := { posonlyargs := [], args := [{ arg := "self", annotation := none, pos := p1 }, { arg := "at", annotation := none, pos := p2 }], vararg := none, kwonlyargs := [], kw_defaults := [], kwarg := none, defaults := [] }
def iB (m : Str) (j : Nat) (q1 q2 q3 q4 q5 q6 q7 q8 q9 qa : Pos) : List Stmt := [.Expr (.Call (.Attribute (.Call (.Name "super" q1) [] [] q2) "__init__" q3) [.Constant (.str m) j q4] [] q5) q6, .Assign [.Attribute (.Name "self" q7) "at" q8] (.Name "at" q9) qa]
def iS : Scope := { kind := .function, names := [(PySem.Str.ofString "self", .local), (PySem.Str.ofString "at", .local), (PySem.Str.ofString "__class__", .free), (PySem.Str.ofString "super", .globalImplicit)], isGenerator := false, isCoroutine := false, more := [] }
/-- what the written part says of the class at C, of its __init__, at fI, of the class at D that this is written in -/
structure Txt (P : Program) (K : Frag) (C fI D cc cda : Addr) : Prop where
  cls : ∃ nm q N bs bm sn sub ab col dd k0 k1 k2 k3 k5, K.lookup C = some (excClassObj nm q C N bs bm true sn sub ab col dd k0 k1 k2 k3 k5 "ValueError.__new__") ∧ refsVE bm = true
  sa : findIn K (.ref C) "__setattr__" = some (some (.builtin "object.__setattr__"))
  noN : findIn K (.ref C) "at" = some none
  iC : findIn K (.ref C) "__init__" = some (some (.ref fI))
  tC : typeIn K (.ref fI) = some (.type "function")
  kC : keepIn K (.ref C) = true
  exC : subIn K (.ref C) (.type "BaseException") = some true
  tyC : typeIn K (.ref C) = some (.type "type")
  fn : ∃ (qual m : Str) (j : Nat) (oc : Value) (od : Option Addr) (doc pm : Value) (an : Option Addr) (ct : Value) (osl : Array (Option Value)) (p1 p2 q1 q2 q3 q4 q5 q6 q7 q8 q9 qa : Pos),
    K.lookup fI = some ⟨oc, od, .func (ksFn "__init__" qual (iA p1 p2) (iB m j q1 q2 q3 q4 q5 q6 q7 q8 q9 qa) iS .none .none doc pm an (.ref cda) ct cc), osl⟩ ∧ codeIn K (.ref cda) qual = true ∧
    ∀ env : Env, ∃ pl : Sem Bool, eval (.Call (.Attribute (.Call (.Name "super" q1) [] [] q2) "__init__" q3) [.Constant (.str m) j q4] [] q5) env = (do
      let ov ← attributeBase (.Call (.Name "super" q1) [] [] q2) "__init__" env (eval (.Call (.Name "super" q1) [] [] q2) env)
      standAt q3.atName
      let (f, first) ← holding [ov] (getMethod ov "__init__" pl)
      callWith q5 f first (backTo q5 (starEach [.Constant (.str m) j q4] env)) [])
  code : ∃ (cl : Value) (dd : Option Addr) (vs : Array Value) (sl : Array (Option Value)) (file : Str) (tf : Tok), K.lookup cda = some ⟨cl, dd, .fields vs, sl⟩ ∧ vs[2]? = some (.str file tf) ∧ ((P.main.file : Str) == file) = true
  cell : ∃ (cl : Value) (dd : Option Addr) (sl : Array (Option Value)), K.lookup cc = some ⟨cl, dd, .cell (some (.ref D)), sl⟩
  clD : (clsIn K D).isSome = true
  sub : mroIn K C (.ref D) = some true
  sup : ks_superIn K C D "__init__" = some (some (.builtin "ValueError.__init__"))
  ve : subIn K (.ref C) (.type "ValueError") = some true
  tp : nsIn K cStatics "thirdparty.any" = some none
  top : (P.main.scope.names.lookup ("super" : Str)).isSome = false
theorem one_size (v : Value) : [v].length ≤ sizeLine := by
  rw [sizeLine_eq]
  exact (by decide : 1 ≤ 16777216)
theorem ldC {M : Model} {s : Shared} {env : Env} {m : Str → Option Value} {x : Str} {pos : Pos} {v : Value} {Q : Value → Shared → Prop} {A : Around} {E : Value → Shared → Prop} (hn : s.heap.Ns env.locals m) (hv : m x = some v) (h : Q v s)
    (hk : env.scope.kind = .function := by rfl) (hl : env.kindOf x = some .local := by rfl) (hd : (x == ("__debug__" : Str)) = false := by decide) :
    wpAny M A (eval (.Name x pos) env) Q E s := wpAny_Name (wpAny_loadName_local hk hl hn hv h) hd
/-- what __init__ leaves of a fresh exception at x -/
structure InitEnd (h h' : Heap) (x C dx t1 : Addr) (v : Value) : Prop where
  keep : ∀ b o, b ≠ x → h.get? b = some o → h'.get? b = some o
  obj : h'.get? x = some { cls := .ref C, dict := some dx, data := .fields #[.ref t1, .none, .none, .none, .bool false, .none] }
  dbig : h.objs.size ≤ dx
  dne : dx ≠ x
  ns : h'.Ns1 dx (fun y => if y = "at" then some v else none)
/-- a made one -/
structure OwnMade (h h' : Heap) (e C d : Addr) (v : Value) : Prop where
  keep : ∀ b o, h.get? b = some o → h'.get? b = some o
  new : h.objs.size ≤ e
  obj : ∃ oe vs, h'.get? e = some oe ∧ oe.cls = .ref C ∧ oe.dict = some d ∧ oe.data = .fields vs ∧ vs[1]? = some .none
  dbig : h.objs.size ≤ d
  dne : d ≠ e
  ns : h'.Ns1 d (fun y => if y = "at" then some v else none)
section
variable {prog : Program} {w : World} {A : Around} {E : Value → Shared → Prop} {R : Result → Shared → Prop} {s : Shared} {K : Frag} {mg mb : Str → Option Value} {C fI D cc cda : Addr}
theorem call_mw {h : Heap} {g : Array GenState} {d : Drawn} {t : Nat} {os : OsState} {nm q : Str} {N : Addr} {bs bm : List Value} {hdct : Bool} {sn : List Str} {sub : List Value} {ab : Bool} {col : Option Bool} {dd : Option Addr} {k0 k1 k2 k3 k5 : Option Value} {u e t0 : Addr} {rest : List Value} {Q : Value → Shared → Prop}
    (hC : h.get? C = some (excClassObj nm q C N bs bm hdct sn sub ab col dd k0 k1 k2 k3 k5 "ValueError.__new__")) (he : h.get? e = some (excO C t0)) (hu : h.get? u = some (kxs_mw "ValueError.__init__" e)) (hrest : rest.length ≤ sizeLine)
    (hq : ∀ h' t1, (∀ b o, b ≠ e → h.get? b = some o → h'.get? b = some o) → h'.get? e = some (excO C t1) → Q .none ⟨h', g, d, t, os⟩) :
    wpAny (model prog w) A (call (.ref u) rest) Q E ⟨h, g, d, t, os⟩ := by
  refine wpAny_call (codeAny_of_tree ?_)
  show wpAny _ A.in1 (callAny (.ref u) ⟨rest, []⟩) _ _ _
  simp only [callAny]
  refine wpAny_bind (wpAny_load hu ?_)
  simp only [kxs_mw, show (Value.type "method-wrapper" == Value.type "method" || Value.type "method-wrapper" == Value.type "builtin_function_or_method" || Value.type "method-wrapper" == Value.type "method-wrapper") = true by decide, if_true]
  refine W.KFB.if_so (by decide) ?_
  refine wpAny_bind (check_bound_init F.excBase_ValueError.toExcCallFacts hC he rfl ?_)
  refine wpAny_bind (wpAny_pure (wpAny_pure ?_))
  refine ⟨plainId_quiet F.excBase_ValueError.init.plain _, codeAny_builtin F.excBase_ValueError.initEntry ?_⟩
  exact exc_init_tree (cls := .ref C) (t0 := t0) (dv := none) (c2 := .none) (c3 := .none) (b4 := .bool false) he hrest fun h' k e' t' => hq h' _ k e'
theorem sup_init (T : Txt prog K C fI D cc cda) {x t0 : Addr} {v : Value} (X : K.In s.heap) (hg : s.heap.Ns mainGlobals mg) (hm : mg "super" = none) (hb : s.heap.Ns builtinsNs mb) (hs : mb "super" = some (.type "super")) (hlim : s.heap.NoLimit) (hx : s.heap.get? x = some (excO C t0)) (hnx : K.lookup x = none) (hroom : A.depth < recursionLimit)
    (hq : ∀ h' tk dx t1, InitEnd s.heap h' x C dx t1 v → R (.ok (.ret .none)) { s with heap := h', toks := tk }) :
    codeAny (model prog w) A (.call (.ref fI) ⟨[.ref x, v], []⟩) R s := by
  obtain ⟨qual, m, j, oc, od, doc, pm, an, ct, osl, p1, p2, q1, q2, q3, q4, q5, q6, q7, q8, q9, qa, ho, hcd, hev⟩ := T.fn
  obtain ⟨nm, q, N, bs, bm, sn, sub, ab, col, dd, k0, k1, k2, k3, k5, hC, hbm⟩ := T.cls
  have hcl : clsIn K C = some { name := nm, bases := bs, mro := .ref C :: bm, ns := N, qualname := q, hasDict := true, slotNames := sn, subclasses := sub, abstract := ab, collection := col, hasDel := false } := by unfold clsIn; rw [hC] <;> rfl
  obtain ⟨hp, g, d, t, os⟩ := s
  refine ks_codeAny_call_defAt (fd := ksFn "__init__" qual (iA p1 p2) (iB m j q1 q2 q3 q4 q5 q6 q7 q8 q9 qa) iS .none .none doc pm an (.ref cda) ct cc) (body := iB m j q1 q2 q3 q4 q5 q6 q7 q8 q9 qa) (binds := [("self", .ref x), ("at", v)]) hroom (X _ _ ho) rfl hlim (codeRec_of X hcd) rfl (BindsTo.of_eq (by first | rfl | with_unfolding_all rfl)) (show ∀ z ∈ iS.names, z.2 ≠ .cell by decide) (fun y hy => by
    simp only [List.mem_cons, List.not_mem_nil, or_false] at hy
    rcases hy with rfl | rfl <;> rfl) (fun h₁ hns k => ?_) rfl rfl rfl
  have X₁ : K.In h₁ := X.keeps k
  have hx₁ := k _ _ hx
  have hxL : hp.objs.size ≠ x := Nat.ne_of_gt (Heap.lt_size hx)
  have g₁ := hg.keeps k
  have b₁ := hb.keeps k
  obtain ⟨ccl, cdd, vs, csl, file, tf, hcode, hvs, hfile⟩ := T.code
  obtain ⟨ccl2, cdd2, csl2, hcell⟩ := T.cell
  obtain ⟨oD, cdD, hD1, hD2⟩ : ∃ oD cdD, h₁.get? D = some oD ∧ oD.data = .cls cdD := by
    obtain ⟨cd, hD⟩ := Option.isSome_iff_exists.mp T.clD
    unfold clsIn at hD
    split at hD
    · rename_i c d cd' sl ho
      exact ⟨_, _, X₁ _ _ ho, rfl⟩
    · cases hD
  obtain ⟨pl, hev⟩ := hev (callEnv (ksFn "__init__" qual (iA p1 p2) (iB m j q1 q2 q3 q4 q5 q6 q7 q8 q9 qa) iS .none .none doc pm an (.ref cda) ct cc) hp.objs.size fI)
  refine ks_wpAt_execs_cons (ks_wpAt_Expr_any (ks_wpAt_MethodCall (pl := pl) ?_ hev))
  refine ks_wpAt_super_base (env := callEnv (ksFn "__init__" qual (iA p1 p2) (iB m j q1 q2 q3 q4 q5 q6 q7 q8 q9 qa) iS .none .none doc pm an (.ref cda) ct cc) hp.objs.size fI) rfl rfl (by decide) rfl (X₁ _ _ ho) rfl rfl rfl (X₁ _ _ hcode) rfl hvs hfile T.top ?_
  refine ks_loadName_global rfl rfl (loadGlobal_builtin g₁ hm b₁ hs ⟨rfl, ?_⟩)
  refine wpAny_loadName_free rfl rfl rfl ⟨_, X₁ _ _ hcell, rfl⟩ ?_
  refine wpAny_loadName_local rfl rfl hns (by first | rfl | with_unfolding_all rfl | kernel_rfl) ?_
  refine ks_wpAny_isType_cls hD1 hD2 ⟨rfl, ?_⟩
  refine ks_wpAny_call_super hD1 hD2 hx₁ rfl (fun c e => by cases e) (looks_mroIn X₁ T.sub) (fun h₂ e₂ k₂ => ?_)
  have X₂ : K.In h₂ := X₁.keeps k₂
  have hx₂ := k₂ _ _ hx₁
  have I₂ : InstAt h₂ x (excO C t0) C none := ⟨hx₂, rfl, rfl, trivial⟩
  have hsup : alongIn K "__init__" (((Value.ref C :: bm).dropWhile (· != .ref D)).drop 1) = some (some (.builtin "ValueError.__init__")) := by
    have z := T.sup
    unfold ks_superIn at z
    rw [hcl] at z
    exact z
  refine kxs_getMethod kxs_ValueError e₂ (looks_opaque X₂ T.tp) (l₀ := .ref C :: bm) (fun A Q E s k q => wpAny_bind ((looks_clsIn X₂ hcl) A _ E s k (wpAny_pure q))) rfl X₂ hsup (I₂.type.andThen (looks_subIn X₂ T.ve)) (ks_ne X₂ I₂ hcl) (by decide) ?_
  have hsz₂ : x ≠ h₂.objs.size := Nat.ne_of_lt (Heap.lt_size hx₂)
  have kp : ∀ b o, h₂.get? b = some o → (h₂.push (kxs_mw "ValueError.__init__" x)).get? b = some o := fun b o e => Heap.get?_push_of_some _ e
  show wpAny _ _ (callWith q5 (.ref h₂.objs.size) [] (backTo q5 (starEach [.Constant (.str m) j q4] _)) []) _ _ _
  refine kxs_callWith (i := "ValueError.__init__") (x := x) rfl ?_
  refine evalArgs_plain (PyProof.Rows.spliced_more (wpAny_Constant_str (PyProof.Rows.spliced_none ?_)))
  refine ⟨Heap.get?_push_at rfl rfl, ?_⟩
  show wpAny _ _ (call (.ref h₂.objs.size) [.str m _]) _ _ _
  have hC₂ : (h₂.push (kxs_mw "ValueError.__init__" x)).get? C = some (excClassObj nm q C N bs bm true sn sub ab col dd k0 k1 k2 k3 k5 "ValueError.__new__") := kp _ _ (X₂ _ _ hC)
  refine call_mw hC₂ (kp _ _ hx₂) (Heap.get?_push_at rfl rfl) (one_size _) fun h₃ t₃ k₃ hx₃ => ?_
  have K₃ : ∀ b o, b ≠ x → hp.get? b = some o → h₃.get? b = some o := fun b o hb e => k₃ b o hb (kp _ _ (k₂ _ _ (k _ _ e)))
  have X₃ : K.In h₃ := fun a o e => K₃ a o (fun z => by rw [z, hnx] at e; cases e) (X _ _ e)
  obtain ⟨oL, es, ep, hL, hrest⟩ := hns
  have hns₃ : h₃.Ns hp.objs.size (fun y => List.lookup y [(PySem.Str.ofString "self", Value.ref x), (PySem.Str.ofString "at", v)].reverse) := ⟨oL, es, ep, k₃ _ _ hxL (kp _ _ (k₂ _ _ hL)), hrest⟩
  have zL : hp.objs.size < h₃.objs.size := hns₃.lt
  dsimp only
  refine ks_wpAt_execs_cons (ks_wpAt_Assign_Attr ?_)
  refine wpAt_of_wpAny ?_
  refine ldC hns₃ (by first | rfl | with_unfolding_all rfl | kernel_rfl) (ldC hns₃ (by first | rfl | with_unfolding_all rfl | kernel_rfl) ?_)
  refine set_plain X₃ (ox := excO C t₃) (od := none) ⟨hx₃, rfl, rfl, trivial⟩ T.sa ?_
  refine exc_osa X₃ hx₃ hcl (show refsVE (.ref C :: bm) = true from hbm) rfl T.noN (fun h₄ tk₄ dx k₄ dn dne hx₄ hn₄ => ?_)
  dsimp only
  refine wpAt_of_wpAny (wpAny_execs_nil (hq h₄ tk₄ dx t₃ ⟨fun b o hb e => k₄ b o hb (K₃ b o hb e), hx₄, Nat.le_of_lt (Nat.lt_of_lt_of_le zL dn), dne, hn₄⟩))
end
section
variable {prog : Program} {w : World} {A : Around} {E : Value → Shared → Prop} {R : Result → Shared → Prop} {s : Shared} {K : Frag} {mg mb : Str → Option Value} {C fI D cc cda : Addr}
theorem sup_made (T : Txt prog K C fI D cc cda) {v : Value} (X : K.In s.heap) (hg : s.heap.Ns mainGlobals mg) (hm : mg "super" = none) (hb : s.heap.Ns builtinsNs mb) (hs : mb "super" = some (.type "super")) (hlim : s.heap.NoLimit) (hroom : A.depth + 1 < recursionLimit)
    (hq : ∀ h' tk e d, OwnMade s.heap h' e C d v → R (.ok (.ret (.ref e))) { s with heap := h', toks := tk }) :
    codeAny (model prog w) A (.call (.ref C) ⟨[v], []⟩) R s := by
  obtain ⟨nm, q, N, bs, bm, sn, sub, ab, col, dd, k0, k1, k2, k3, k5, hC, hbm⟩ := T.cls
  obtain ⟨hp, g, dr, tk, os⟩ := s
  have k : ∀ b o, hp.get? b = some o → ((hp.push (kdv_tup [v])).push (excO C hp.objs.size)).get? b = some o := fun b o e => Heap.get?_push_of_some _ (Heap.get?_push_of_some _ e)
  have hget : ((hp.push (kdv_tup [v])).push (excO C hp.objs.size)).get? (hp.objs.size + 1) = some (excO C hp.objs.size) := by heap_get
  have hnx : K.lookup (hp.objs.size + 1) = none := by
    cases e : K.lookup (hp.objs.size + 1) with
    | none => rfl
    | some o =>
      have z : hp.get? (hp.objs.size + 1) = some o := X _ _ e
      exact absurd (Nat.lt_of_succ_lt (Heap.lt_size z)) (Nat.lt_irrefl _)
  refine call_own F.excBase_ValueError (fun X => refsVE_contains X bm hbm) (X _ _ hC) (looks_findIn X T.iC) (fun self => bind_fn X self T.tC) (one_size v) ?_
  refine sup_init (s := ⟨(hp.push (kdv_tup [v])).push (excO C hp.objs.size), g, dr, tk, os⟩) T (X.keeps k) (hg.keeps k) hm (hb.keeps k) hs (hlim.keeps k) hget hnx ?_ fun h' tk' dx t1 ⟨k', hx, dn, dne, hns⟩ => ?_
  · show A.depth + 1 < recursionLimit
    exact hroom
  · have old : ∀ b o, hp.get? b = some o → h'.get? b = some o := fun b o e => k' b o (Nat.ne_of_lt (Nat.lt_succ_of_lt (Heap.lt_size e))) (k b o e)
    have z : hp.objs.size + 1 + 1 ≤ dx := by
      first
        | (simpa only [Heap.size_push] using dn)
        | exact dn
        | (have q := dn; rw [Heap.size_push, Heap.size_push] at q; exact q)
    exact ⟨rfl, hq h' tk' (hp.objs.size + 1) dx ⟨old, Nat.le_succ _, ⟨_, _, hx, rfl, rfl, rfl, rfl⟩, Nat.le_trans (Nat.le_trans (Nat.le_succ _) (Nat.le_succ _)) z, dne, hns⟩⟩
end
end Supat
end PySem

namespace L2
open PySem PySem.Spec PyProof.Rows
theorem relO_name {v : V} {v' : Value} (r : RelV v v') (f : Str) : RelO (List.lookup f [(("name" : Str), v)]) (if f = "name" then some v' else none) := by
  by_cases hw : f = "name"
  · subst hw
    rw [if_pos rfl]
    have q : List.lookup ("name" : Str) [(("name" : Str), v)] = some v := by simp [List.lookup]
    rw [q]
    exact r
  · rw [if_neg hw]
    have qw : (f == ("name" : Str)) = false := by simpa using hw
    have q2 : List.lookup f [(("name" : Str), v)] = none := by simp [List.lookup, qw]
    rw [q2]
    trivial
theorem pmk_name {X : Cx} {C fI D cc cda : Addr} {a : Expr} {ta : TA} {x : Str} {p pos : Pos} {k : Nat} (T : PySem.Supname.Txt X.prog X.K C fI D cc cda) (hgC : X.mg x = some (.ref C)) (hsup : X.mg "super" = none) (hr : Room k X.A) (ha : PA X [a] ta) (hg : Gl X x) (hdb : (x == ("__debug__" : Str)) = false := by decide)
    (he : starEach (a :: []) X.env = (false, eval a X.env) :: starEach [] X.env := by rfl) (hpl : (backTo pos (starEach [] X.env)).any (·.1) = false := by rfl) :
    PMk X (.Call (.Name x p) [a] [] pos) (fun σ H Q => ta σ H fun vs H1 => ∃ v, vs = [v] ∧ ∀ d, H1 d = none → Q (.ref C) (some d) (upd H1 d (.xd [(("name" : Str), v)]))) := by
  intro pins s σ H Q I h
  refine wpAny_Call_Name_kw (ld_glob I hg hgC ?_ hdb)
  refine PySem.W.callWith_K (h₀ := X.base) I.ok.mod.kin T.kC (thn (ha.run pos pins s σ H _ I h) fun us s1 hh => ?_) he hpl
  obtain ⟨vs, H1, I1, r1, v, ev, q1⟩ := hh
  subst ev
  refine ⟨I1.kIn, ?_⟩
  cases r1 with
  | cons rv rn =>
    rename_i v' us'
    cases rn
    show wpAny _ _ (call (.ref C) [v']) _ _ _
    have hlim := I1.nolimit
    obtain ⟨mb, b1, b2⟩ := I1.mod.blt
    have G1 := I1.mod.glob.keeps I1.bk
    have B1 := b1.keeps I1.bk
    obtain ⟨hp, g, dr, tk, os⟩ := s1
    refine wpAny_call (PySem.Supname.sup_made T I1.kIn G1 hsup B1 ((b2 "super" (by decide)).trans (by decide +kernel)) hlim (by have := hr.dp; omega) fun h' tk' e d M => ?_)
    show MkP X pins σ Q (.ref e) ⟨h', g, dr, tk', os⟩
    obtain ⟨oe, fv, hoe, hc, hd, hdat, h1⟩ := M.obj
    have hns := M.ns
    obtain ⟨G', g1, g2⟩ := restrict h' fun b => decide (b ≠ e)
    have gk : ∀ b, b ≠ e → G'.get? b = h'.get? b := fun b hb => g1 b (decide_eq_true hb)
    have ge : G'.get? e = none := g2 e (by simp)
    have old : ∀ b o, hp.get? b = some o → G'.get? b = some o := fun b o q => (gk b (Nat.ne_of_lt (Nat.lt_of_lt_of_le (Heap.lt_size q) M.new))).trans (M.keep b o q)
    have ob : ObjOk X.prog X.w (upd H1 d (.xd [(("name" : Str), v)])) G' d (.xd [(("name" : Str), v)]) :=
      ⟨_, hns.at (fun o q => (gk d M.dne).trans q), fun f => relO_name rv f⟩
    have J : Inv X pins σ (upd H1 d (.xd [(("name" : Str), v)])) ⟨G', g, dr, tk', os⟩ := I1.laid (t' := tk') old M.dbig ob
    refine ⟨e, oe, fv, ⟨G', g, dr, tk', os⟩, _, .ref C, some d, rfl, J, fun b o q => ?_, ge, hoe, ⟨hc, hd⟩, hdat, h1, ?_, rfl, I1.bare, raises_own T.exC T.tyC, q1 d (I1.hok.fresh M.dbig)⟩
    · by_cases hb : b = e
      · have q' : G'.get? b = some o := q
        rw [hb, ge] at q'; cases q'
      · exact (gk b hb).symm.trans q
    · rw [upd_ne (Ne.symm M.dne)]
      exact I1.hok.fresh M.new
theorem relO_at {v : V} {v' : Value} (r : RelV v v') (f : Str) : RelO (List.lookup f [(("at" : Str), v)]) (if f = "at" then some v' else none) := by
  by_cases hw : f = "at"
  · subst hw
    rw [if_pos rfl]
    have q : List.lookup ("at" : Str) [(("at" : Str), v)] = some v := by simp [List.lookup]
    rw [q]
    exact r
  · rw [if_neg hw]
    have qw : (f == ("at" : Str)) = false := by simpa using hw
    have q2 : List.lookup f [(("at" : Str), v)] = none := by simp [List.lookup, qw]
    rw [q2]
    trivial
theorem pmk_at {X : Cx} {C fI D cc cda : Addr} {a : Expr} {ta : TA} {x : Str} {p pos : Pos} {k : Nat} (T : PySem.Supat.Txt X.prog X.K C fI D cc cda) (hgC : X.mg x = some (.ref C)) (hsup : X.mg "super" = none) (hr : Room k X.A) (ha : PA X [a] ta) (hg : Gl X x) (hdb : (x == ("__debug__" : Str)) = false := by decide)
    (he : starEach (a :: []) X.env = (false, eval a X.env) :: starEach [] X.env := by rfl) (hpl : (backTo pos (starEach [] X.env)).any (·.1) = false := by rfl) :
    PMk X (.Call (.Name x p) [a] [] pos) (fun σ H Q => ta σ H fun vs H1 => ∃ v, vs = [v] ∧ ∀ d, H1 d = none → Q (.ref C) (some d) (upd H1 d (.xd [(("at" : Str), v)]))) := by
  intro pins s σ H Q I h
  refine wpAny_Call_Name_kw (ld_glob I hg hgC ?_ hdb)
  refine PySem.W.callWith_K (h₀ := X.base) I.ok.mod.kin T.kC (thn (ha.run pos pins s σ H _ I h) fun us s1 hh => ?_) he hpl
  obtain ⟨vs, H1, I1, r1, v, ev, q1⟩ := hh
  subst ev
  refine ⟨I1.kIn, ?_⟩
  cases r1 with
  | cons rv rn =>
    rename_i v' us'
    cases rn
    show wpAny _ _ (call (.ref C) [v']) _ _ _
    have hlim := I1.nolimit
    obtain ⟨mb, b1, b2⟩ := I1.mod.blt
    have G1 := I1.mod.glob.keeps I1.bk
    have B1 := b1.keeps I1.bk
    obtain ⟨hp, g, dr, tk, os⟩ := s1
    refine wpAny_call (PySem.Supat.sup_made T I1.kIn G1 hsup B1 ((b2 "super" (by decide)).trans (by decide +kernel)) hlim (by have := hr.dp; omega) fun h' tk' e d M => ?_)
    show MkP X pins σ Q (.ref e) ⟨h', g, dr, tk', os⟩
    obtain ⟨oe, fv, hoe, hc, hd, hdat, h1⟩ := M.obj
    have hns := M.ns
    obtain ⟨G', g1, g2⟩ := restrict h' fun b => decide (b ≠ e)
    have gk : ∀ b, b ≠ e → G'.get? b = h'.get? b := fun b hb => g1 b (decide_eq_true hb)
    have ge : G'.get? e = none := g2 e (by simp)
    have old : ∀ b o, hp.get? b = some o → G'.get? b = some o := fun b o q => (gk b (Nat.ne_of_lt (Nat.lt_of_lt_of_le (Heap.lt_size q) M.new))).trans (M.keep b o q)
    have ob : ObjOk X.prog X.w (upd H1 d (.xd [(("at" : Str), v)])) G' d (.xd [(("at" : Str), v)]) :=
      ⟨_, hns.at (fun o q => (gk d M.dne).trans q), fun f => relO_at rv f⟩
    have J : Inv X pins σ (upd H1 d (.xd [(("at" : Str), v)])) ⟨G', g, dr, tk', os⟩ := I1.laid (t' := tk') old M.dbig ob
    refine ⟨e, oe, fv, ⟨G', g, dr, tk', os⟩, _, .ref C, some d, rfl, J, fun b o q => ?_, ge, hoe, ⟨hc, hd⟩, hdat, h1, ?_, rfl, I1.bare, raises_own T.exC T.tyC, q1 d (I1.hok.fresh M.dbig)⟩
    · by_cases hb : b = e
      · have q' : G'.get? b = some o := q
        rw [hb, ge] at q'; cases q'
      · exact (gk b hb).symm.trans q
    · rw [upd_ne (Ne.symm M.dne)]
      exact I1.hok.fresh M.new
end L2
namespace Mi
open PySem PySem.Spec PyProof.Rows L2

/-! ### exceptions: what is known of the classes -/
structure XT where
  /-- the classes that are raised -/
  cls : List Str
  /-- own classes, built-in ones that are asked for -/
  own : List Str
  bts : List String
  /-- their fields -/
  fld : List Str
  sub : Str → Str → Bool
def XT.ask (T : XT) (c y : Str) : Option Bool := if c ∈ T.cls ∧ y ∈ T.own then some (T.sub c y) else none
def XT.askB (T : XT) (c : Str) (y : String) : Option Bool := if c ∈ T.cls ∧ y ∈ T.bts then some (T.sub c (Str.ofString y)) else none
open PySem.W in
def xcB (K : Frag) (C : Addr) : Bool := decide (findIn K (.ref C) "__getattribute__" = some (some (.builtin "BaseException.__getattribute__"))) && (decide (findIn K (.ref C) "__getattr__" = some none) && (decide (subIn K (.ref C) (.type "BaseException") = some true) && (hasDictIn K C && ((clsIn K C).isSome &&
  (decide (findIn K (.ref C) "__class__" = some (some (.builtin "object.__class__"))) && (decide (specialIn K (.builtin "object.__class__") "__get__" = some (some (.builtin "getset_descriptor.__get__"))) && (decide (takesIn K (.builtin "object.__class__") = some true) && decide (mroIn K C (.type "object") = some true))))))))
open PySem.W in
structure XC (K : Frag) (C : Addr) : Prop where
  ga : findIn K (.ref C) "__getattribute__" = some (some (.builtin "BaseException.__getattribute__"))
  gg : findIn K (.ref C) "__getattr__" = some none
  ex : subIn K (.ref C) (.type "BaseException") = some true
  hd : hasDictIn K C = true
  cl : (clsIn K C).isSome = true
  ha : findIn K (.ref C) "__class__" = some (some (.builtin "object.__class__"))
  hn : specialIn K (.builtin "object.__class__") "__get__" = some (some (.builtin "getset_descriptor.__get__"))
  ht : takesIn K (.builtin "object.__class__") = some true
  hm : mroIn K C (.type "object") = some true
theorem xcB_ok {K : PySem.W.Frag} {C : Addr} (h : xcB K C = true) : XC K C := by
  unfold xcB at h
  simp only [Bool.and_eq_true, decide_eq_true_eq] at h
  obtain ⟨h1, h2, h3, h4, h5, h6, h7, h8, h9⟩ := h
  exact ⟨h1, h2, h3, h4, h5, h6, h7, h8, h9⟩
def XT.okB (T : XT) (K : PySem.W.Frag) : Bool := T.cls.all fun c => xcB K (He.ga K c) && ((T.own.all fun y => decide (PySem.W.kitOne K (.ref (He.ga K c)) (.ref (He.ga K y)) = some (T.sub c y)) && decide (PySem.W.exmOne K (.ref (He.ga K c)) (.ref (He.ga K y)) = some (T.sub c y))) &&
  ((T.bts.all fun y => decide (PySem.W.kitOne K (.ref (He.ga K c)) (.type y) = some (T.sub c (Str.ofString y)))) && T.fld.all fun f => decide (PySem.W.findIn K (.ref (He.ga K c)) f = some none)))
structure XOk (T : XT) (K : PySem.W.Frag) : Prop where
  xc : ∀ c ∈ T.cls, XC K (He.ga K c)
  kit : ∀ {c y : Str} {b : Bool}, T.ask c y = some b → PySem.W.kitOne K (.ref (He.ga K c)) (.ref (He.ga K y)) = some b
  kib : ∀ {c : Str} {y : String} {b : Bool}, T.askB c y = some b → PySem.W.kitOne K (.ref (He.ga K c)) (.type y) = some b
  exm : ∀ {c y : Str} {b : Bool}, T.ask c y = some b → PySem.W.exmOne K (.ref (He.ga K c)) (.ref (He.ga K y)) = some b
  nof : ∀ c ∈ T.cls, ∀ f ∈ T.fld, PySem.W.findIn K (.ref (He.ga K c)) f = some none
theorem XT.ok {T : XT} {K : PySem.W.Frag} (h : T.okB K = true) : XOk T K := by
  have a : ∀ c ∈ T.cls, xcB K (He.ga K c) = true ∧ (∀ y ∈ T.own, PySem.W.kitOne K (.ref (He.ga K c)) (.ref (He.ga K y)) = some (T.sub c y) ∧ PySem.W.exmOne K (.ref (He.ga K c)) (.ref (He.ga K y)) = some (T.sub c y)) ∧ (∀ y ∈ T.bts, PySem.W.kitOne K (.ref (He.ga K c)) (.type y) = some (T.sub c (Str.ofString y))) ∧ ∀ f ∈ T.fld, PySem.W.findIn K (.ref (He.ga K c)) f = some none := fun c hc => by
    have q := List.all_eq_true.mp h c hc
    simpa only [Bool.and_eq_true, List.all_eq_true, decide_eq_true_eq] using q
  refine ⟨fun c hc => xcB_ok (a c hc).1, fun {c y b} e => ?_, fun {c y b} e => ?_, fun {c y b} e => ?_, fun c hc => (a c hc).2.2.2⟩
  · unfold XT.ask at e
    split at e
    · rename_i hh; cases e; exact ((a c hh.1).2.1 y hh.2).1
    · cases e
  · unfold XT.askB at e
    split at e
    · rename_i hh; cases e; exact (a c hh.1).2.2.1 y hh.2
    · cases e
  · unfold XT.ask at e
    split at e
    · rename_i hh; cases e; exact ((a c hh.1).2.1 y hh.2).2
    · cases e
/-! ### raise -/
def sRaise0 (c : Str) : Sm := fun en h => .err ⟨c, []⟩ en h
def sRaise1 (c f : Str) (fe : Ev) : Sm := fun en h => bindS (fe en h) en fun d h1 => .err ⟨c, [(f, d)]⟩ en h1
section
variable {X : Cx} {W : WX} {e : Expr} {pos pos2 : Pos}
theorem ss_raise0 {x m : Str} {j : Nat} {p p2 : Pos} (hc : X.calm = true) (tk : Takes X W) (hX : (He.Fa.exc x).ok X.K = true) (hm : X.mg x = some (.ref (He.ga X.K x))) (hg : Gl X x) (hdb : (x == ("__debug__" : Str)) = false := by decide) :
    SS X W (.Raise (some (.Call (.Name x p) [.Constant (.str m) j p2] [] pos)) none pos2) (sRaise0 x) := by
  obtain ⟨h1, h⟩ := Bool.and_eq_true_iff.mp hX
  obtain ⟨h2, h⟩ := Bool.and_eq_true_iff.mp h
  obtain ⟨h3, h4⟩ := Bool.and_eq_true_iff.mp h
  exact viaS (ps_raise hc tk (pmk_own F.excBase_ValueError h1 hm h2 (raises_own (of_decide_eq_true h3) (of_decide_eq_true h4)) hg hdb)) fun D σ H ⟨m, en, h, R, E, p⟩ => p m H σ _ _ .refl R E ⟨rfl, .inl ⟨rfl, rfl⟩⟩
theorem xd_ext {K : KW} {m : List Addr} {H : Hp} {d : Addr} {ws : List (Str × V)} (h : H d = none) : Ext K m H m (upd H d (.xd ws)) := Ext.fresh h
theorem ss_raise_name {fI D cc cda : Addr} {x : Str} {fe : Ev} {k : Nat} {p : Pos} (hc : X.calm = true) (tk : Takes X W) (T : PySem.Supname.Txt X.prog X.K (He.ga X.K x) fI D cc cda) (hm : X.mg x = some (.ref (He.ga X.K x))) (hsup : X.mg "super" = none) (hr : Room k X.A) (ha : SE X W e fe) (hg : Gl X x) (hdb : (x == ("__debug__" : Str)) = false := by decide)
    (he : starEach (e :: []) X.env = (false, eval e X.env) :: starEach [] X.env := by rfl) (hpl : (backTo pos (starEach [] X.env)).any (·.1) = false := by rfl) :
    SS X W (.Raise (some (.Call (.Name x p) [e] [] pos)) none pos2) (sRaise1 x "name" fe) :=
  viaS (ps_raise hc tk (pmk_name T hm hsup hr (pa_cons ha pa_nil he) hg hdb he hpl)) fun D σ H ⟨m, en, h, R, E, p⟩ => ⟨m, en, h, R, E, Po.imp (PoS.bind (rel := RD X.Kw) E p) fun v H1 ⟨m1, d, h1, x1, R1, r, E1, p1⟩ => ⟨v, rfl, fun q hq => by
    have x2 : Ext X.Kw m1 H1 m1 (upd H1 q (.xd [(("name" : Str), v)])) := Ext.fresh hq
    exact p1 m1 _ σ _ _ x2 (R1.laid hq) (E1.mono x2) ⟨rfl, .inr ⟨q, _, rfl, upd_same, .cons (r.mono x2.e) .nil⟩⟩⟩⟩
theorem ss_raise_at {fI D cc cda : Addr} {x : Str} {fe : Ev} {k : Nat} {p : Pos} (hc : X.calm = true) (tk : Takes X W) (T : PySem.Supat.Txt X.prog X.K (He.ga X.K x) fI D cc cda) (hm : X.mg x = some (.ref (He.ga X.K x))) (hsup : X.mg "super" = none) (hr : Room k X.A) (ha : SE X W e fe) (hg : Gl X x) (hdb : (x == ("__debug__" : Str)) = false := by decide)
    (he : starEach (e :: []) X.env = (false, eval e X.env) :: starEach [] X.env := by rfl) (hpl : (backTo pos (starEach [] X.env)).any (·.1) = false := by rfl) :
    SS X W (.Raise (some (.Call (.Name x p) [e] [] pos)) none pos2) (sRaise1 x "at" fe) :=
  viaS (ps_raise hc tk (pmk_at T hm hsup hr (pa_cons ha pa_nil he) hg hdb he hpl)) fun D σ H ⟨m, en, h, R, E, p⟩ => ⟨m, en, h, R, E, Po.imp (PoS.bind (rel := RD X.Kw) E p) fun v H1 ⟨m1, d, h1, x1, R1, r, E1, p1⟩ => ⟨v, rfl, fun q hq => by
    have x2 : Ext X.Kw m1 H1 m1 (upd H1 q (.xd [(("at" : Str), v)])) := Ext.fresh hq
    exact p1 m1 _ σ _ _ x2 (R1.laid hq) (E1.mono x2) ⟨rfl, .inr ⟨q, _, rfl, upd_same, .cons (r.mono x2.e) .nil⟩⟩⟩⟩

end
/-! ### try -/
def cleanE (en : En) : En := en.map fun o => match o with
  | some d => if d.noExc = true then some d else none
  | none => none
def offE (i : Option Nat) (en : En) : En := match i with
  | some i => (cleanE en).set i none
  | none => cleanE en
def offS (i : Option Nat) (σ : L2.St) : L2.St := match i with
  | some i => σ.set i none
  | none => σ
def onS (i : Option Nat) (a : Addr) (σ : L2.St) : L2.St := match i with
  | some i => σ.set i (some (.ref a))
  | none => σ
def onE (i : Option Nat) (x : Ex) (en : En) : En := match i with
  | some i => en.set i (some (.exc x.cls (x.fs.map (·.1)) (x.fs.map (·.2))))
  | none => en
def okX (h1 h : Hst) : Bool := decide (h.take h1.length = h1) && (h.drop h1.length).all O.noExc
def endX (i : Option Nat) (h1 : Hst) (r : SR) : SR := match r with
  | .nx en h => if okX h1 h = true then .nx (offE i en) h else .bad
  | .bk en h => if okX h1 h = true then .bk (offE i en) h else .bad
  | .ct en h => if okX h1 h = true then .ct (offE i en) h else .bad
  | .rt d h => if okX h1 h = true ∧ d.noExc = true then .rt d h else .bad
  | _ => .bad
def sTry (T : XT) (y : Str) (i : Option Nat) (b su : Sm) : Sm := fun en h => match b en h with
  | .err x en1 h1 => match T.ask x.cls y with
    | some true => endX i h1 (su (onE i x en1) h1)
    | some false => .err x en1 h1
    | none => .bad
  | r => r
theorem RFs.split {K : KW} {m : List Addr} {H : Hp} : ∀ {fs : List (Str × D)} {ws : List (Str × V)}, RFs K m H fs ws → fs.map (·.1) = ws.map (·.1) ∧ RDs K m H (fs.map (·.2)) (ws.map (·.2))
  | _, _, .nil => ⟨rfl, .nil⟩
  | _, _, .cons r rs => by
    obtain ⟨h1, h2⟩ := RFs.split rs
    exact ⟨by simp only [List.map_cons, h1], .cons r h2⟩
section
variable {k : PySem.W.Frag} {w : World} {e1 : Option (Addr × Obj)} {m m1 : List Addr} {H : Hp} {h h1 : Hst} {en : En} {σ : L2.St}
theorem okX_no (q : okX h1 h = true) (n : h1.all O.noExc = true) : h.all O.noExc = true := by
  unfold okX at q
  obtain ⟨q1, q2⟩ := Bool.and_eq_true_iff.mp q
  have e := of_decide_eq_true q1
  rw [← List.take_append_drop h1.length h, e, List.all_append, n, q2]
  rfl
theorem REn.clean (E : REn ⟨k, w, e1⟩ m H en σ) : REn ⟨k, w, none⟩ m H (cleanE en) σ := by
  refine ⟨by unfold cleanE; rw [List.length_map]; exact E.1, fun i d e => ?_⟩
  unfold cleanE at e
  rw [List.getElem?_map] at e
  obtain ⟨o, ho, eo⟩ := Option.map_eq_some_iff.mp e
  cases o with
  | none => cases eo
  | some d' =>
    dsimp only at eo
    split at eo
    · rename_i hn
      cases eo
      obtain ⟨v, hv, r⟩ := E.2 i d ho
      exact ⟨v, hv, r.cv hn⟩
    · cases eo
theorem REn.off (E : REn ⟨k, w, e1⟩ m H en σ) (i : Nat) : REn ⟨k, w, none⟩ m H (offE (some i) en) (σ.set i none) := by
  obtain ⟨l, g⟩ := E.clean
  refine ⟨by simp [offE, l], fun j d e => ?_⟩
  unfold offE at e
  dsimp only at e
  by_cases hj : i = j
  · subst hj
    have hl : i < (cleanE en).length := by
      have := (List.getElem?_eq_some_iff.mp e).1
      simpa using this
    rw [List.getElem?_set_self hl] at e
    cases e
  · rw [List.getElem?_set_ne hj] at e ⊢
    exact g j d e
theorem REn.cv0 (E : REn ⟨k, w, none⟩ m H en σ) : REn ⟨k, w, e1⟩ m H en σ := ⟨E.1, fun i d e => let ⟨v, hv, r⟩ := E.2 i d e; ⟨v, hv, r.cv r.no⟩⟩
end
section
variable {X : Cx} {Wout : WX} {body suite : List Stmt} {b₀ : Stmt} {np pos pos' : Pos} {b su : Sm} {T : XT} {x n : Str}
/-- the suite's reading -/
def tsX (X : Cx) (su : Sm) (a : Addr) (cls : Value) (d : Option Addr) : TS := fun D σ H => ∀ oe : Obj, Zc cls d oe → (∃ vs, oe.data = .fields vs) → RdS ⟨X.K, X.w, some (a, oe)⟩ (fun _ _ _ _ => False) su D σ H
theorem tr_kw {pn : List (Addr × Obj)} {xe : Value → Shared → Prop} (hc : X.calm = true) : (X.tr pn xe).Kw = X.Kw := by
  show (⟨X.K, X.w, hxOf X.calm pn⟩ : KW) = ⟨X.K, X.w, hxOf X.calm X.pn⟩
  rw [hc]
  rfl
theorem kw_calm (hc : X.calm = true) : X.Kw = ⟨X.K, X.w, none⟩ := by
  show (⟨X.K, X.w, hxOf X.calm X.pn⟩ : KW) = _
  rw [hc]
  rfl
theorem try_body {W : WX} {pn : List (Addr × Obj)} {xe : Value → Shared → Prop} (hc : X.calm = true) (h : SSs (X.tr pn xe) W body b) : PSs (X.tr pn xe) body (RdS ⟨X.K, X.w, none⟩ W b) := by
  have q : PSs (X.tr pn xe) body (RdS (X.tr pn xe).Kw W b) := h
  rwa [tr_kw hc, kw_calm hc] at q
/-- into the suite -/
theorem in_suite {m m' : List Addr} {H H' : Hp} {xx : Ex} {cls : Value} {d : Option Addr} {en' : En} {h' : Hst} {σ' : L2.St} {D : Ends} {a : Addr} (x : Ext ⟨X.K, X.w, none⟩ m H m' H') (R : RH ⟨X.K, X.w, none⟩ m' H' h') (E : REn ⟨X.K, X.w, none⟩ m' H' en' σ') (rx : RX ⟨X.K, X.w, none⟩ m' H' xx cls d)
    (i : Option Nat) (p : PoS ⟨X.K, X.w, none⟩ Wout m H (endX i h' (su (onE i xx en') h')) D) : tsX X su a cls d
      { nx := fun s H => D.nx (offS i s) H, rt := D.rt, bk := fun s H => D.bk (offS i s) H, ct := fun s H => D.ct (offS i s) H } (onS i a σ') H' := by
  intro oe hz hf
  obtain ⟨vs, hf⟩ := hf
  have n0 := R.no
  have E0 : REn ⟨X.K, X.w, some (a, oe)⟩ m' H' en' σ' := E.cv0
  have hE : REn ⟨X.K, X.w, some (a, oe)⟩ m' H' (onE i xx en') (onS i a σ') := by
    cases i with
    | none => exact E0
    | some i =>
      refine E0.set (d := .exc xx.cls (xx.fs.map (·.1)) (xx.fs.map (·.2))) ?_ i
      obtain ⟨e1, e2⟩ := rx
      rcases e2 with ⟨e2, e3⟩ | ⟨dd, ws, e2, e3, e4⟩
      · exact .exc (ws := []) rfl hf (hz.1.trans e1) (.inl ⟨hz.2.trans e3, rfl, by rw [e2]; rfl⟩) (by rw [e2]; exact .nil)
      · obtain ⟨f1, f2⟩ := e4.split
        exact .exc (ws := ws) rfl hf (hz.1.trans e1) (.inr ⟨dd, hz.2.trans e2, e3, f1⟩) (f2.cv f2.no)
  refine ⟨m', _, h', R.cv n0, hE, ?_⟩
  have offs : ∀ {m2 : List Addr} {H2 : Hp} {en2 : En} {σ2 : L2.St}, REn ⟨X.K, X.w, some (a, oe)⟩ m2 H2 en2 σ2 → REn ⟨X.K, X.w, none⟩ m2 H2 (offE i en2) (offS i σ2) := fun q => by
    cases i with
    | none => exact q.clean
    | some i => exact q.off i
  cases es : su (onE i xx en') h' with
  | nx en2 h2 =>
    rw [es] at p
    unfold endX at p
    dsimp only at p
    obtain ⟨ok, p⟩ := pos_if p
    exact fun m2 H2 σ2 x2 R2 E2 => p m2 H2 _ (x.trans x2.cv) (R2.cv (okX_no ok n0)) (offs E2)
  | bk en2 h2 =>
    rw [es] at p
    unfold endX at p
    dsimp only at p
    obtain ⟨ok, p⟩ := pos_if p
    exact fun m2 H2 σ2 x2 R2 E2 => p m2 H2 _ (x.trans x2.cv) (R2.cv (okX_no ok n0)) (offs E2)
  | ct en2 h2 =>
    rw [es] at p
    unfold endX at p
    dsimp only at p
    obtain ⟨ok, p⟩ := pos_if p
    exact fun m2 H2 σ2 x2 R2 E2 => p m2 H2 _ (x.trans x2.cv) (R2.cv (okX_no ok n0)) (offs E2)
  | rt d2 h2 =>
    rw [es] at p
    unfold endX at p
    dsimp only at p
    obtain ⟨ok, p⟩ := pos_if p
    exact fun m2 H2 v x2 R2 r2 => p m2 H2 v (x.trans x2.cv) (R2.cv (okX_no ok.1 n0)) (r2.cv ok.2)
  | err x2 en2 h2 => rw [es] at p; exact p.elim
  | bad => rw [es] at p; exact p.elim
theorem rd_try {i : Option Nat} {W' : WX} (hT : XOk T X.K) {D : Ends}
    (hW : ∀ (cls : Value) (d : Option Addr) (σ : L2.St) (H : Hp) (bb : Bool), PySem.W.exmOne X.K cls (.ref (He.ga X.K x)) = some bb → (bb = true → ∀ a, tsX X su a cls d
      { nx := fun s H => D.nx (offS i s) H, rt := D.rt, bk := fun s H => D.bk (offS i s) H, ct := fun s H => D.ct (offS i s) H } (onS i a σ) H) → (bb = false → Wout cls d σ H) → W' cls d σ H) :
    ∀ σ H, RdS ⟨X.K, X.w, none⟩ Wout (sTry T x i b su) D σ H → RdS ⟨X.K, X.w, none⟩ W' b D σ H := by
  rintro σ H ⟨m, en, h, R, E, p⟩
  refine ⟨m, en, h, R, E, ?_⟩
  unfold sTry at p
  cases eb : b en h with
  | err xx en1 h1 =>
    rw [eb] at p
    intro m' H' σ' cls d x' R' E' rx
    dsimp only at p
    split at p
    · rename_i ha
      exact hW cls d σ' H' true (by rw [rx.1]; exact hT.exm ha) (fun _ a => in_suite x' R' E' rx i p) (fun z => by cases z)
    · rename_i ha
      exact hW cls d σ' H' false (by rw [rx.1]; exact hT.exm ha) (fun z => by cases z) fun _ => p m' H' σ' cls d x' R' E' rx
    · exact p.elim
  | nx en1 h1 => rw [eb] at p; exact p
  | rt d h1 => rw [eb] at p; exact p
  | bk en1 h1 => rw [eb] at p; exact p
  | ct en1 h1 => rw [eb] at p; exact p
  | bad => rw [eb] at p; exact p
theorem suite_ps (hsu : ∀ (a : Addr) (oe : Obj) (cls : Value) (d : Option Addr) (pn : List (Addr × Obj)), Zc cls d oe → (∃ vs, oe.data = .fields vs) → SSs (X.suite a ((a, oe) :: pn)) (fun _ _ _ _ => False) (b₀ :: suite) su) (a : Addr) (oe : Obj) (cls : Value) (d : Option Addr) (pn : List (Addr × Obj)) (hz : Zc cls d oe) (hf : ∃ vs, oe.data = .fields vs) : PSs (X.suite a ((a, oe) :: pn)) (b₀ :: suite) (tsX X su a cls d) :=
  viaSs (hsu a oe cls d pn hz hf) fun D σ H h => h oe hz hf
theorem ss_tryAs {i : Nat} (hc : X.calm = true) (hT : XOk T X.K) (hs : X.stack = X.env :: X.outer) (hf : X.env.frame = some X.env.locals) (hN : X.N.Nodup) (hi : X.N[i]? = some n) (hln : X.env.kindOf n = some .local) (hg : Gl X x) (hm : X.mg x = some (.ref (He.ga X.K x))) (tk : Takes X Wout)
    (hb : ∀ (W : WX) (pn : List (Addr × Obj)) (xe : Value → Shared → Prop), Takes (X.tr pn xe) W → PassesOwn (model X.prog X.w) X.A X.env xe → SSs (X.tr pn xe) W body b)
    (hsu : ∀ (a : Addr) (oe : Obj) (cls : Value) (d : Option Addr) (pn : List (Addr × Obj)), Zc cls d oe → (∃ vs, oe.data = .fields vs) → SSs (X.suite a ((a, oe) :: pn)) (fun _ _ _ _ => False) (b₀ :: suite) su) (hdb : (x == ("__debug__" : Str)) = false := by decide) :
    SS X Wout (.Try body [.ExceptHandler (some (.Name x np)) (some n) (b₀ :: suite) pos'] [] [] pos) (sTry T x (some i) b su) :=
  viaS (ps_try_as hs hf hN hi hln ⟨hg, hdb, .inl hm⟩ tk (fun W pn xe tk' po => try_body hc (hb W pn xe tk' po)) (suite_ps hsu)) fun D σ H p => by
    rw [kw_calm hc] at p
    exact rd_try (i := some i) hT (fun cls d σ H bb h1 h2 h3 => ⟨bb, h1, fun z a _ => h2 z a, h3⟩) σ H p
theorem ss_try (hc : X.calm = true) (hT : XOk T X.K) (hs : X.stack = X.env :: X.outer) (hf : X.env.frame = some X.env.locals) (hg : Gl X x) (hm : X.mg x = some (.ref (He.ga X.K x))) (tk : Takes X Wout)
    (hb : ∀ (W : WX) (pn : List (Addr × Obj)) (xe : Value → Shared → Prop), Takes (X.tr pn xe) W → PassesOwn (model X.prog X.w) X.A X.env xe → SSs (X.tr pn xe) W body b)
    (hsu : ∀ (a : Addr) (oe : Obj) (cls : Value) (d : Option Addr) (pn : List (Addr × Obj)), Zc cls d oe → (∃ vs, oe.data = .fields vs) → SSs (X.suite a ((a, oe) :: pn)) (fun _ _ _ _ => False) (b₀ :: suite) su) (hdb : (x == ("__debug__" : Str)) = false := by decide) :
    SS X Wout (.Try body [.ExceptHandler (some (.Name x np)) none (b₀ :: suite) pos'] [] [] pos) (sTry T x none b su) :=
  viaS (ps_try_only hs hf ⟨hg, hdb, .inl hm⟩ tk (fun W pn xe tk' po => try_body hc (hb W pn xe tk' po)) (suite_ps hsu)) fun D σ H p => by
    rw [kw_calm hc] at p
    exact rd_try (i := none) hT (fun cls d σ H bb h1 h2 h3 => ⟨bb, h1, fun z a _ => h2 z a, h3⟩) σ H p
end
/-! ### the caught exception: its class, its fields -/
def vIsX (T : XT) (i : Nat) (y : Str) : Ev := fun en h => match en[i]? with
  | some (some (.exc c _ _)) => match T.ask c y with
    | some b => .ok (.bl b) h
    | none => .bad
  | _ => .bad
def vIsXB (T : XT) (i : Nat) (y : String) : Ev := fun en h => match en[i]? with
  | some (some (.exc c _ _)) => match T.askB c y with
    | some b => .ok (.bl b) h
    | none => .bad
  | _ => .bad
def vXf (T : XT) (i : Nat) (f : Str) : Ev := fun en h => match en[i]? with
  | some (some (.exc c ns ds)) => if c ∈ T.cls ∧ f ∈ T.fld then match (ns.zip ds).lookup f with
    | some d => .ok d h
    | none => .bad
    else .bad
  | _ => .bad
/-- isinstance(e, c) of the caught exception -/
def rIsX (K : PySem.W.Frag) (a : Addr) (oe : Obj) : List V → Hp → VK → Prop := fun xs H Q => ∃ (C : Addr) (c : V) (cv : Value) (b : Bool), xs = [.ref a, c] ∧ XC K C ∧ oe.cls = .ref C ∧ (∃ vs, oe.data = .fields vs) ∧ (oe.dict = none ∨ ∃ dd ws, oe.dict = some dd ∧ H dd = some (.xd ws)) ∧ (∀ u, RelV c u → u = cv) ∧ PySem.W.kitOne K (.ref C) cv = some b ∧ Q (.bl b) H
theorem call_isX {X : Cx} {a : Addr} {oe : Obj} {pn : List (Addr × Obj)} : CallR (X.suite a ((a, oe) :: pn)) (.builtin "isinstance") (rIsX X.K a oe) := by
  intro pins s σ H xs us Q I r h
  obtain ⟨D, c, cv, b, rfl, C, hcl, hf, hd, hcv, e, q⟩ := h
  cases r with
  | cons rx rr =>
    cases rr with
    | cons rt rr =>
      cases rr
      cases rx
      have ec := hcv _ rt
      subst ec
      obtain ⟨hget, _⟩ := I.pin (a, oe) (List.mem_append.mpr (.inl List.mem_cons_self))
      obtain ⟨vs, hv⟩ := hf
      have J : ∃ od, PySem.W.InstAt s.heap a oe D od := by
        rcases hd with hd | ⟨dd, ws, hd, hx⟩
        · obtain ⟨oc, od, oda, osl⟩ := oe
          dsimp only at hcl hd hv
          subst hcl hd hv
          exact ⟨none, hget, rfl, rfl, trivial⟩
        · have hx : ObjOk X.prog X.w H s.heap dd (.xd ws) := I.hok dd _ hx
          obtain ⟨mA, hns, hr⟩ := hx
          obtain ⟨od, ho, hl⟩ := lookIn_ns hns
          exact ⟨some od, hget, hcl, by unfold PySem.W.notCls; rw [hv] <;> rfl, by rw [hd]; exact ho⟩
      obtain ⟨od, J⟩ := J
      exact PySem.W.kia_one (PySem.W.kitx_exc (gt := none) C.cl C.ga C.gg C.ex C.ha C.hn C.ht C.hm) I.kIn J e (fun z => nomatch z) fun tk => ⟨.bl b, H, I.kept (t' := tk) fun _ _ z => z, rfl, q⟩
section
variable {X : Cx} {W : WX} {a : Addr} {oe : Obj} {pn : List (Addr × Obj)} {T : XT} {n y : Str} {p p1 p2 pos : Pos} {i : Nat}
/-- the variable that holds it -/
theorem exc_var {m : List Addr} {H : Hp} {en : En} {σ : L2.St} {c : Str} {ns : List Str} {ds : List D} (E : REn ⟨X.K, X.w, some (a, oe)⟩ m H en σ) (e : en[i]? = some (some (.exc c ns ds))) :
    σ[i]? = some (some (.ref a)) ∧ (∃ vs, oe.data = .fields vs) ∧ oe.cls = .ref (He.ga X.K c) ∧ ∃ ws, XdAt H oe.dict ws ns ∧ RDs ⟨X.K, X.w, some (a, oe)⟩ m H ds (ws.map (·.2)) := by
  obtain ⟨v, hv, r⟩ := E.2 i _ e
  cases r with
  | exc h1 h2 h3 h4 h5 =>
    cases h1
    exact ⟨hv, ⟨_, h2⟩, h3, _, h4, h5⟩
theorem xdAt_or {H : Hp} {d : Option Addr} {ws : List (Str × V)} {ns : List Str} (h : XdAt H d ws ns) : d = none ∨ ∃ dd ws, d = some dd ∧ H dd = some (.xd ws) := h.elim (fun z => .inl z.1) fun ⟨b, h1, h2, _⟩ => .inr ⟨b, ws, h1, h2⟩
theorem se_isX (hT : XOk T X.K) (hg : Gl X "isinstance") (hm : X.mg "isinstance" = none) (hgy : Gl X y) (hmy : X.mg y = some (.ref (He.ga X.K y))) (hN : X.N[i]? = some n := by rfl) (hv : Vis X.env.scope n := by first | exact Or.inl rfl | exact Or.inr (Or.inl rfl) | exact Or.inr (Or.inr rfl)) (hd : (n == ("__debug__" : Str)) = false := by decide)
    (hcd : (n == ("__classdict__" : Str)) = false := by decide) (hdy : (y == ("__debug__" : Str)) = false := by decide) (he : starEach (.Name n p1 :: [.Name y p2]) X.env = (false, eval (.Name n p1) X.env) :: starEach [.Name y p2] X.env := by rfl) (hs : starEach [.Name y p2] X.env = (false, eval (.Name y p2) X.env) :: starEach [] X.env := by rfl)
    (hpl : (backTo pos (starEach [.Name y p2] X.env)).any (·.1) = false := by rfl) : SE (X.suite a ((a, oe) :: pn)) W (.Call (.Name "isinstance" p) [.Name n p1, .Name y p2] [] pos) (vIsX T i y) :=
  viaE (pe_callB (X := X.suite a ((a, oe) :: pn)) call_isX hg hm (by decide +kernel) (pa_cons (pe_var (i := i) hN hv hd hcd) (pa_cons (pe_glob (v := .ref (He.ga X.K y)) hgy hmy rfl hdy) pa_nil hs) he) (by decide) (by decide) he hpl) fun σ H Q ⟨m, en, h, R, E, p⟩ => by
    unfold vIsX at p
    split at p
    · rename_i c ns ds e
      split at p
      · rename_i bb hb
        obtain ⟨h1, h2, h3, ws, h4, h5⟩ := exc_var E e
        have hc : c ∈ T.cls := by
          unfold XT.ask at hb
          split at hb
          · rename_i z; exact z.1
          · cases hb
        exact ⟨_, h1, _, .ref (He.ga X.K y), .ref (He.ga X.K y), bb, rfl, hT.xc c hc, h3, h2, xdAt_or h4, fun u hu => hu, hT.kit hb, p_bl R p⟩
      · exact p.elim
    · exact p.elim
theorem se_isXB {ty : String} (hT : XOk T X.K) (hg : Gl X "isinstance") (hm : X.mg "isinstance" = none) (hgy : Gl X y) (hmy : X.mg y = none) (hby : bootBuiltins y = some (.type ty)) (hN : X.N[i]? = some n := by rfl) (hv : Vis X.env.scope n := by first | exact Or.inl rfl | exact Or.inr (Or.inl rfl) | exact Or.inr (Or.inr rfl)) (hd : (n == ("__debug__" : Str)) = false := by decide)
    (hcd : (n == ("__classdict__" : Str)) = false := by decide) (hny : y ≠ "__name__" := by decide) (hdy : (y == ("__debug__" : Str)) = false := by decide) (he : starEach (.Name n p1 :: [.Name y p2]) X.env = (false, eval (.Name n p1) X.env) :: starEach [.Name y p2] X.env := by rfl) (hs : starEach [.Name y p2] X.env = (false, eval (.Name y p2) X.env) :: starEach [] X.env := by rfl)
    (hpl : (backTo pos (starEach [.Name y p2] X.env)).any (·.1) = false := by rfl) : SE (X.suite a ((a, oe) :: pn)) W (.Call (.Name "isinstance" p) [.Name n p1, .Name y p2] [] pos) (vIsXB T i ty) :=
  viaE (pe_callB (X := X.suite a ((a, oe) :: pn)) call_isX hg hm (by decide +kernel) (pa_cons (pe_var (i := i) hN hv hd hcd) (pa_cons (pe_bltn (v := .ty ty) hgy hmy hby rfl hny hdy) pa_nil hs) he) (by decide) (by decide) he hpl) fun σ H Q ⟨m, en, h, R, E, p⟩ => by
    unfold vIsXB at p
    split at p
    · rename_i c ns ds e
      split at p
      · rename_i bb hb
        obtain ⟨h1, h2, h3, ws, h4, h5⟩ := exc_var E e
        have hc : c ∈ T.cls := by
          unfold XT.askB at hb
          split at hb
          · rename_i z; exact z.1
          · cases hb
        exact ⟨_, h1, _, .ty ty, .type ty, bb, rfl, hT.xc c hc, h3, h2, xdAt_or h4, fun u hu => hu, hT.kib hb, p_bl R p⟩
      · exact p.elim
    · exact p.elim
theorem zip_look {K : KW} {m : List Addr} {H : Hp} {f : Str} {d : D} : ∀ {ws : List (Str × V)} {ds : List D}, RDs K m H ds (ws.map (·.2)) → ((ws.map (·.1)).zip ds).lookup f = some d → ∃ v, ws.lookup f = some v ∧ RD K m H d v
  | [], _, _, e => by cases e
  | (g, v) :: ws, _, r, e => by
    cases r with
    | cons r rs =>
      rename_i d' ds
      have e : List.lookup f ((g, d') :: (ws.map (·.1)).zip ds) = some d := e
      unfold List.lookup at e ⊢
      split at e
      · cases e
        exact ⟨v, rfl, r⟩
      · exact zip_look rs e
theorem se_xf {f : Str} {cls : Value} {d : Option Addr} (hz : Zc cls d oe) (hf : ∃ vs, oe.data = .fields vs) (hT : XOk T X.K) (hN : X.N[i]? = some n := by rfl) (hv : Vis X.env.scope n := by first | exact Or.inl rfl | exact Or.inr (Or.inl rfl) | exact Or.inr (Or.inr rfl)) (hd : (n == ("__debug__" : Str)) = false := by decide)
    (hcd : (n == ("__classdict__" : Str)) = false := by decide) (hb : attributeBase (.Name n p1) f X.env (eval (.Name n p1) X.env) = eval (.Name n p1) X.env := by rfl) : SE (X.suite a ((a, oe) :: pn)) W (.Attribute (.Name n p1) f pos) (vXf T i f) := by
  refine ⟨fun pins s σ H Q I h => ?_⟩
  obtain ⟨m, en, hh, R, E, p⟩ := h
  unfold vXf at p
  split at p
  · rename_i c ns ds e
    obtain ⟨hc, p0⟩ := p_if p
    clear p
    obtain ⟨h1, h2, h3, ws, h4, h5⟩ := exc_var E e
    split at p0
    · rename_i dv el
      have C := hT.xc c hc.1
      refine (pe_xf (X := X) ⟨C.ga, C.gg, C.ex, C.hd⟩ (hT.nof c hc.1 f hc.2) hz hf (pe_var (i := i) hN hv hd hcd) hb).run pins s σ H Q I ⟨.ref a, h1, rfl, hz.1.symm.trans h3, ?_⟩
      rcases h4 with ⟨z1, z2, z3⟩ | ⟨b, z1, z2, z3⟩
      · rw [z3] at el; cases el
      · subst z3
        obtain ⟨v, w1, w2⟩ := zip_look h5 el
        exact ⟨b, ws, v, hz.2.symm.trans z1, z2, w1, po_ok (rel := RD _) p0 R w2⟩
    · exact p0.elim
  · exact p.elim
end
end Mi

namespace He
open PySem PySem.Spec PyProof.Rows L2
/-! ### the head's facts, with any more Bools and the texts of __init__ with a super() -/
abbrev FnX : Type := Option (Str × Str × Arguments × FuncBody × Scope × Addr × List Str × Addr)
def fnX (K : PySem.W.Frag) (x : Str) : FnX := match K.lookup (ma K (ga K x) "__init__") with
  | some ⟨_, _, .func fd, _⟩ => some (fd.name, fd.qualname, fd.params, fd.body, fd.scope, fd.globals, fd.closure.map (·.1), fd.builtins)
  | _ => none
abbrev AlX : Type := Bool × List FnW × List FnX
structure HxD where
  n : Nat
  fa : List Fa
  fn : List DefD
  bs : List (PySem.W.Frag → Bool)
  su : List (Str × FnX)
def HxD.obs (d : HxD) (K : PySem.W.Frag) : AlX := ((d.fa.all fun f => f.ok K) && ((d.fn.all fun d => d.ok K) && d.bs.all fun b => b K), d.fn.map (fun d => fnW K d.at_), d.su.map fun p => fnX K p.1)
def HxD.val (d : HxD) : AlX := (true, d.fn.map DefD.val, d.su.map (·.2))
def HxD.Says (d : HxD) (K : PySem.W.Frag) : Prop := d.obs K = d.val
def HxD.obsG (d : HxD) (g : Addr → Option Obj) : AlX := d.obs (frG g (cStatics :: asD g d.n))
def HxD.hook (d : HxD) : PySem.W.Hook where
  α := AlX
  obs := fun s => d.obsG s.heap.get?
  val := fun _ => d.val
  says := fun _ h => ∃ K : PySem.W.Frag, K.In h ∧ d.Says K
  of := fun _ _ e => ⟨_, frG_in, e⟩
  keeps := fun _ _ _ ⟨K, hK, c⟩ k => ⟨K, PySem.W.Frag.In.keeps hK k, c⟩
theorem HxD.obsG_eq {d : HxD} {g : Addr → Option Obj} {s : Shared} (h : ∀ a, g a = s.heap.get? a) : d.obsG g = d.hook.obs s := by
  have e : g = s.heap.get? := funext h
  rw [e] <;> rfl
section
variable {d : HxD} {K : PySem.W.Frag}
theorem HxD.Says.fact (c : d.Says K) (i : Nat) {f : Fa} (h : d.fa[i]? = some f) : f.ok K = true := by
  have c1 := (ba (show ((d.fa.all fun f => f.ok K) && ((d.fn.all fun d => d.ok K) && d.bs.all fun b => b K)) = true from congrArg (fun z : AlX => z.1) c)).1
  exact List.all_eq_true.mp c1 f (List.mem_of_getElem? h)
theorem HxD.Says.def_ (c : d.Says K) (i : Nat) {e : DefD} (h : d.fn[i]? = some e) : ∃ fd, FunD K e.name e.qual e.params e.body e.scope (e.dvs K) (e.kws K) (fAd K e.at_) fd := by
  have c2 := (ba (ba (show ((d.fa.all fun f => f.ok K) && ((d.fn.all fun d => d.ok K) && d.bs.all fun b => b K)) = true from congrArg (fun z : AlX => z.1) c)).2).1
  have e1 : d.fn.map (fun d => fnW K d.at_) = d.fn.map DefD.val := congrArg (fun z : AlX => z.2.1) c
  have e2 : (d.fn.map fun d => fnW K d.at_)[i]? = (d.fn.map DefD.val)[i]? := by rw [e1]
  rw [List.getElem?_map, List.getElem?_map, h] at e2
  exact DefD.funD (Option.some.inj e2) (List.all_eq_true.mp c2 e (List.mem_of_getElem? h))
theorem HxD.Says.bool (c : d.Says K) (i : Nat) {b : PySem.W.Frag → Bool} (h : d.bs[i]? = some b) : b K = true := by
  have c1 := (ba (ba (show ((d.fa.all fun f => f.ok K) && ((d.fn.all fun d => d.ok K) && d.bs.all fun b => b K)) = true from congrArg (fun z : AlX => z.1) c)).2).2
  exact List.all_eq_true.mp c1 b (List.mem_of_getElem? h)
theorem HxD.Says.sup (c : d.Says K) (i : Nat) {x : Str} {v : FnX} (h : d.su[i]? = some (x, v)) : fnX K x = v := by
  have e1 : (d.su.map fun p => fnX K p.1) = d.su.map (·.2) := congrArg (fun z : AlX => z.2.2) c
  have e2 : (d.su.map fun p => fnX K p.1)[i]? = (d.su.map (·.2))[i]? := by rw [e1]
  rw [List.getElem?_map, List.getElem?_map, h] at e2
  exact Option.some.inj e2
end
/-- where the class that an __init__ is written in stands, its cell, its code -/
def suC (K : PySem.W.Frag) (x : Str) : Addr × Addr × Addr := match K.lookup (ma K (ga K x) "__init__") with
  | some ⟨_, _, .func fd, _⟩ => (match fd.closure, fd.code with
    | [(_, cc)], .ref cda => (match K.lookup cc with
      | some ⟨_, _, .cell (some (.ref D)), _⟩ => (D, cc, cda)
      | _ => (0, 0, 0))
    | _, _ => (0, 0, 0))
  | _ => (0, 0, 0)
open PySem.W PySem.HandSPX in
/-- .. and what must be so -/
def supB (file : Str) (x f : Str) (K : Frag) : Bool :=
  let C := ga K x
  (match K.lookup (ma K C "__init__") with
    | some ⟨_, _, .func fd, _⟩ => (match fd.closure, fd.code, fd.defaults, fd.kwdefaults with
      | [(_, cc)], .ref cda, .none, .none => codeIn K fd.code fd.qualname && ((match K.lookup cc with
        | some ⟨_, _, .cell (some (.ref D)), _⟩ => (clsIn K D).isSome && (decide (mroIn K C (.ref D) = some true) && decide (ks_superIn K C D "__init__" = some (some (.builtin "ValueError.__init__"))))
        | _ => false) && (match K.lookup cda with
        | some ⟨_, _, .fields vs, _⟩ => (match vs[2]? with
          | some (Value.str fl _) => file == fl
          | _ => false)
        | _ => false))
      | _, _, _, _ => false)
    | _ => false) && ((match K.lookup C with
    | some ⟨.type "type", _, .cls cd, sl⟩ => (match cd.mro, sl.toList with
      | .ref C' :: bm, [k0, k1, k2, k3, some (.builtin n), k5] => decide (C' = C) && (n == "ValueError.__new__" && (!cd.hasDel && (cd.hasDict && refsVE bm)))
      | _, _ => false)
    | _ => false) && (decide (findIn K (.ref C) "__setattr__" = some (some (.builtin "object.__setattr__"))) && (decide (findIn K (.ref C) f = some none) && (decide (findIn K (.ref C) "__init__" = some (some (.ref (ma K C "__init__")))) &&
    (decide (typeIn K (.ref (ma K C "__init__")) = some (.type "function")) && (keepIn K (.ref C) && (decide (subIn K (.ref C) (.type "BaseException") = some true) && (decide (typeIn K (.ref C) = some (.type "type")) && (decide (subIn K (.ref C) (.type "ValueError") = some true) &&
    decide (nsIn K cStatics "thirdparty.any" = some none))))))))))
end He
namespace PySem
namespace Supname
open PySem.W PySem.Calls PyProof.Rows PySem.HandSPX
theorem of {P : Program} {K : Frag} {x qual m : Str} {j : Nat} {p1 p2 q1 q2 q3 q4 q5 q6 q7 q8 q9 qa : Pos} (h1 : He.fnX K x = (some (("__init__" : Str), qual, iA p1 p2, FuncBody.stmts (iB m j q1 q2 q3 q4 q5 q6 q7 q8 q9 qa), iS, mainGlobals, [("__class__" : Str)], builtinsNs) : He.FnX)) (h2 : He.supB P.main.file x "name" K = true)
    (top : (P.main.scope.names.lookup ("super" : Str)).isSome = false)
    (ev : ∀ env : Env, ∃ pl : Sem Bool, eval (.Call (.Attribute (.Call (.Name "super" q1) [] [] q2) "__init__" q3) [.Constant (.str m) j q4] [] q5) env = (do
      let ov ← attributeBase (.Call (.Name "super" q1) [] [] q2) "__init__" env (eval (.Call (.Name "super" q1) [] [] q2) env)
      standAt q3.atName
      let (f, first) ← holding [ov] (getMethod ov "__init__" pl)
      callWith q5 f first (backTo q5 (starEach [.Constant (.str m) j q4] env)) [])) :
    Txt P K (He.ga K x) (He.ma K (He.ga K x) "__init__") (He.suC K x).1 (He.suC K x).2.1 (He.suC K x).2.2 := by
  unfold He.supB at h2
  dsimp only at h2
  obtain ⟨h2, h3⟩ := Bool.and_eq_true_iff.mp h2
  obtain ⟨h3, h4⟩ := Bool.and_eq_true_iff.mp h3
  simp only [Bool.and_eq_true, decide_eq_true_eq] at h4
  obtain ⟨a1, a2, a3, a4, a5, a6, a7, a8, a9⟩ := h4
  have hcls : ∃ nm q N bs bm sn sub ab col dd k0 k1 k2 k3 k5, K.lookup (He.ga K x) = some (excClassObj nm q (He.ga K x) N bs bm true sn sub ab col dd k0 k1 k2 k3 k5 "ValueError.__new__") ∧ refsVE bm = true := by
    split at h3
    · rename_i dd cd sl ho
      split at h3
      · rename_i C' bm k0 k1 k2 k3 n k5 hm hs
        simp only [Bool.and_eq_true, beq_iff_eq, Bool.not_eq_true', decide_eq_true_eq] at h3
        obtain ⟨b1, b2, b3, b4, b5⟩ := h3
        obtain ⟨nm, bs, mro, ns, qn, hd, sn, sub, ab, col, del⟩ := cd
        dsimp only at hm b3 b4
        subst hm b1 b2 b3 b4
        have hsl : sl = #[k0, k1, k2, k3, some (.builtin "ValueError.__new__"), k5] := by
          obtain ⟨l⟩ := sl
          simp only at hs
          rw [hs]
        subst hsl
        exact ⟨nm, qn, ns, bs, bm, sn, sub, ab, col, dd, k0, k1, k2, k3, k5, ho, b5⟩
      · cases h3
    · cases h3
  unfold He.suC
  unfold He.fnX at h1
  split at h2
  · rename_i oc od fd osl hf
    rw [hf] at h1
    dsimp only at h1
    split at h2
    · rename_i cn cc cda e1 e2 e3 e4
      obtain ⟨c1, c2⟩ := Bool.and_eq_true_iff.mp h2
      obtain ⟨c2, c3⟩ := Bool.and_eq_true_iff.mp c2
      split at c2
      · rename_i oc2 od2 D osl2 hcc
        simp only [Bool.and_eq_true, decide_eq_true_eq] at c2
        obtain ⟨d1, d2, d3⟩ := c2
        split at c3
        · rename_i oc3 od3 vs osl3 hcd
          split at c3
          · rename_i fl tf hvs
            try rw [hf]
            try dsimp only
            try rw [e1, e2]
            try dsimp only
            try rw [hcc]
            try dsimp only
            obtain ⟨n1, n2, n3, n4, n5, n6, n7, n8, n9, n10, n11, n12, n13, n14, n15⟩ := fd
            dsimp only at e1 e2 e3 e4 c1 h1
            subst e1 e2 e3 e4
            simp only [Option.some.injEq, Prod.mk.injEq, List.map_cons, List.map_nil, List.cons.injEq, and_true] at h1
            obtain ⟨g1, g2, g3, g4, g5, g6, g7, g8⟩ := h1
            subst g1 g2 g3 g4 g5 g6 g7 g8
            exact ⟨hcls, a1, a2, a3, a4, a5, a6, a7, ⟨_, m, j, oc, od, n10, n11, n12, n14, osl, p1, p2, q1, q2, q3, q4, q5, q6, q7, q8, q9, qa, hf, c1, ev⟩, ⟨oc3, od3, vs, osl3, fl, tf, hcd, hvs, c3⟩, ⟨oc2, od2, osl2, hcc⟩, d1, d2, d3, a8, a9, top⟩
          · cases c3
        · cases c3
      · cases c2
    · cases h2
  · cases h2
end Supname
end PySem
namespace PySem
namespace Supat
open PySem.W PySem.Calls PyProof.Rows PySem.HandSPX
theorem of {P : Program} {K : Frag} {x qual m : Str} {j : Nat} {p1 p2 q1 q2 q3 q4 q5 q6 q7 q8 q9 qa : Pos} (h1 : He.fnX K x = (some (("__init__" : Str), qual, iA p1 p2, FuncBody.stmts (iB m j q1 q2 q3 q4 q5 q6 q7 q8 q9 qa), iS, mainGlobals, [("__class__" : Str)], builtinsNs) : He.FnX)) (h2 : He.supB P.main.file x "at" K = true)
    (top : (P.main.scope.names.lookup ("super" : Str)).isSome = false)
    (ev : ∀ env : Env, ∃ pl : Sem Bool, eval (.Call (.Attribute (.Call (.Name "super" q1) [] [] q2) "__init__" q3) [.Constant (.str m) j q4] [] q5) env = (do
      let ov ← attributeBase (.Call (.Name "super" q1) [] [] q2) "__init__" env (eval (.Call (.Name "super" q1) [] [] q2) env)
      standAt q3.atName
      let (f, first) ← holding [ov] (getMethod ov "__init__" pl)
      callWith q5 f first (backTo q5 (starEach [.Constant (.str m) j q4] env)) [])) :
    Txt P K (He.ga K x) (He.ma K (He.ga K x) "__init__") (He.suC K x).1 (He.suC K x).2.1 (He.suC K x).2.2 := by
  unfold He.supB at h2
  dsimp only at h2
  obtain ⟨h2, h3⟩ := Bool.and_eq_true_iff.mp h2
  obtain ⟨h3, h4⟩ := Bool.and_eq_true_iff.mp h3
  simp only [Bool.and_eq_true, decide_eq_true_eq] at h4
  obtain ⟨a1, a2, a3, a4, a5, a6, a7, a8, a9⟩ := h4
  have hcls : ∃ nm q N bs bm sn sub ab col dd k0 k1 k2 k3 k5, K.lookup (He.ga K x) = some (excClassObj nm q (He.ga K x) N bs bm true sn sub ab col dd k0 k1 k2 k3 k5 "ValueError.__new__") ∧ refsVE bm = true := by
    split at h3
    · rename_i dd cd sl ho
      split at h3
      · rename_i C' bm k0 k1 k2 k3 n k5 hm hs
        simp only [Bool.and_eq_true, beq_iff_eq, Bool.not_eq_true', decide_eq_true_eq] at h3
        obtain ⟨b1, b2, b3, b4, b5⟩ := h3
        obtain ⟨nm, bs, mro, ns, qn, hd, sn, sub, ab, col, del⟩ := cd
        dsimp only at hm b3 b4
        subst hm b1 b2 b3 b4
        have hsl : sl = #[k0, k1, k2, k3, some (.builtin "ValueError.__new__"), k5] := by
          obtain ⟨l⟩ := sl
          simp only at hs
          rw [hs]
        subst hsl
        exact ⟨nm, qn, ns, bs, bm, sn, sub, ab, col, dd, k0, k1, k2, k3, k5, ho, b5⟩
      · cases h3
    · cases h3
  unfold He.suC
  unfold He.fnX at h1
  split at h2
  · rename_i oc od fd osl hf
    rw [hf] at h1
    dsimp only at h1
    split at h2
    · rename_i cn cc cda e1 e2 e3 e4
      obtain ⟨c1, c2⟩ := Bool.and_eq_true_iff.mp h2
      obtain ⟨c2, c3⟩ := Bool.and_eq_true_iff.mp c2
      split at c2
      · rename_i oc2 od2 D osl2 hcc
        simp only [Bool.and_eq_true, decide_eq_true_eq] at c2
        obtain ⟨d1, d2, d3⟩ := c2
        split at c3
        · rename_i oc3 od3 vs osl3 hcd
          split at c3
          · rename_i fl tf hvs
            try rw [hf]
            try dsimp only
            try rw [e1, e2]
            try dsimp only
            try rw [hcc]
            try dsimp only
            obtain ⟨n1, n2, n3, n4, n5, n6, n7, n8, n9, n10, n11, n12, n13, n14, n15⟩ := fd
            dsimp only at e1 e2 e3 e4 c1 h1
            subst e1 e2 e3 e4
            simp only [Option.some.injEq, Prod.mk.injEq, List.map_cons, List.map_nil, List.cons.injEq, and_true] at h1
            obtain ⟨g1, g2, g3, g4, g5, g6, g7, g8⟩ := h1
            subst g1 g2 g3 g4 g5 g6 g7 g8
            exact ⟨hcls, a1, a2, a3, a4, a5, a6, a7, ⟨_, m, j, oc, od, n10, n11, n12, n14, osl, p1, p2, q1, q2, q3, q4, q5, q6, q7, q8, q9, qa, hf, c1, ev⟩, ⟨oc3, od3, vs, osl3, fl, tf, hcd, hvs, c3⟩, ⟨oc2, od2, osl2, hcc⟩, d1, d2, d3, a8, a9, top⟩
          · cases c3
        · cases c3
      · cases c2
    · cases h2
  · cases h2
end Supat
end PySem

namespace Mi
open PySem PySem.Spec PyProof.Rows L2

/-! ### runs, step by step -/
@[simp] theorem bind_ok {α β : Type} (a : α) (h : Hst) (f : α → Hst → Res β) : (Res.ok a h).bind f = f a h := (rfl)
@[simp] theorem bind_bad {α β : Type} (f : α → Hst → Res β) : (Res.bad : Res α).bind f = .bad := (rfl)
@[simp] theorem bind_err {α β : Type} (x : Ex) (h : Hst) (f : α → Hst → Res β) : (Res.err x h : Res α).bind f = .err x h := (rfl)
@[simp] theorem bindS_ok {α : Type} (a : α) (h : Hst) (en : En) (k : α → Hst → SR) : bindS (.ok a h) en k = k a h := (rfl)
@[simp] theorem bindS_err {α : Type} (x : Ex) (h : Hst) (en : En) (k : α → Hst → SR) : bindS (.err x h : Res α) en k = .err x en h := (rfl)
@[simp] theorem asB_bl (b : Bool) (h : Hst) : asB (.ok (.bl b) h) = .ok b h := (rfl)
@[simp] theorem thenS_nx (en : En) (h : Hst) (k : Sm) : thenS (.nx en h) k = k en h := (rfl)
@[simp] theorem thenS_rt (d : D) (h : Hst) (k : Sm) : thenS (.rt d h) k = .rt d h := (rfl)
@[simp] theorem thenS_err (x : Ex) (en : En) (h : Hst) (k : Sm) : thenS (.err x en h) k = .err x en h := (rfl)
@[simp] theorem thenS_bk (en : En) (h : Hst) (k : Sm) : thenS (.bk en h) k = .bk en h := (rfl)
@[simp] theorem thenS_ct (en : En) (h : Hst) (k : Sm) : thenS (.ct en h) k = .ct en h := (rfl)
@[simp] theorem vVar_ap (i : Nat) (en : En) (h : Hst) : vVar i en h = match en[i]? with | some (some d) => .ok d h | _ => .bad := (rfl)
@[simp] theorem vC_ap (d : D) (en : En) (h : Hst) : vC d en h = .ok d h := (rfl)
@[simp] theorem vB_ap (g : D → D → Hst → Res D) (fa fb : Ev) (en : En) (h : Hst) : vB g fa fb en h = (fa en h).bind fun x h1 => (fb en h1).bind fun y h2 => g x y h2 := (rfl)
@[simp] theorem vU_ap (g : D → Hst → Res D) (f : Ev) (en : En) (h : Hst) : vU g f en h = (f en h).bind fun x h1 => g x h1 := (rfl)
@[simp] theorem vCh_ap (g g' : D → D → Hst → Res D) (fa fb fc : Ev) (en : En) (h : Hst) : vCh g g' fa fb fc en h = (fa en h).bind fun x h1 => (fb en h1).bind fun y h2 => (asB (g x y h2)).bind fun k h3 => match k with
    | true => (fc en h3).bind fun z h4 => g' y z h4
    | false => .ok (.bl false) h3 := (rfl)
@[simp] theorem tV_ap (f : Ev) (en : En) (h : Hst) : tV f en h = asB (f en h) := (rfl)
@[simp] theorem tTru_ap (f : Ev) (en : En) (h : Hst) : tTru f en h = (f en h).bind fun d h1 => truD d h1 := (rfl)
@[simp] theorem tNotE_ap (f : EvT) (en : En) (h : Hst) : tNotE f en h = (f en h).bind fun b h1 => .ok (!b) h1 := (rfl)
@[simp] theorem tAndE_ap (f g : EvT) (en : En) (h : Hst) : tAndE f g en h = (f en h).bind fun b h1 => match b with | true => g en h1 | false => .ok false h1 := (rfl)
@[simp] theorem tOrE_ap (f g : EvT) (en : En) (h : Hst) : tOrE f g en h = (f en h).bind fun b h1 => match b with | true => .ok true h1 | false => g en h1 := (rfl)
@[simp] theorem vAnd_ap (f g : Ev) (en : En) (h : Hst) : vAnd f g en h = (f en h).bind fun d h1 => (truD d h1).bind fun b h2 => match b with | true => g en h2 | false => .ok d h2 := (rfl)
@[simp] theorem vOr_ap (f g : Ev) (en : En) (h : Hst) : vOr f g en h = (f en h).bind fun d h1 => (truD d h1).bind fun b h2 => match b with | true => .ok d h2 | false => g en h2 := (rfl)
@[simp] theorem vNot_ap (f : Ev) (en : En) (h : Hst) : vNot f en h = (f en h).bind fun d h1 => (truD d h1).bind fun b h2 => .ok (.bl (!b)) h2 := (rfl)
@[simp] theorem vIf_ap (t : EvT) (f g : Ev) (en : En) (h : Hst) : vIf t f g en h = (t en h).bind fun b h1 => match b with | true => f en h1 | false => g en h1 := (rfl)
@[simp] theorem aNil_ap (en : En) (h : Hst) : aNil en h = .ok [] h := (rfl)
@[simp] theorem aCons_ap (f : Ev) (g : Evs) (en : En) (h : Hst) : aCons f g en h = (f en h).bind fun d h1 => (g en h1).bind fun ds h2 => .ok (d :: ds) h2 := (rfl)
@[simp] theorem vTup_ap (f : Evs) (en : En) (h : Hst) : vTup f en h = (f en h).bind fun ds h1 => if ds.length ≤ 16777216 then .ok (.tup ds) h1 else .bad := (rfl)
@[simp] theorem vLst_ap (f : Evs) (en : En) (h : Hst) : vLst f en h = (f en h).bind fun ds h1 => if ds.length ≤ 16777216 then .ok (.ref h1.length) (h1 ++ [.lst ds]) else .bad := (rfl)
@[simp] theorem oN_ap (en : En) (h : Hst) : oN en h = .ok none h := (rfl)
@[simp] theorem oS_ap (f : Ev) (en : En) (h : Hst) : oS f en h = (f en h).bind fun d h1 => match d with | .int i => .ok (some i) h1 | _ => .bad := (rfl)
@[simp] theorem vSl_ap (f : Ev) (l u : EvO) (en : En) (h : Hst) : vSl f l u en h = (f en h).bind fun x h1 => (l en h1).bind fun a h2 => (u en h2).bind fun b h3 => slD x a b h3 := (rfl)
@[simp] theorem vCall_ap (g : List D → Hst → Res D) (f : Evs) (en : En) (h : Hst) : vCall g f en h = (f en h).bind fun ds h1 => g ds h1 := (rfl)
@[simp] theorem vIsi_ap (Ts : List PT) (f : Ev) (en : En) (h : Hst) : vIsi Ts f en h = (f en h).bind fun x h1 => match tyD x h1 with | some t => .ok (.bl (Ts.any fun T => isTy t T)) h1 | none => .bad := (rfl)
@[simp] theorem vM_ap (T : PT) (g : D → List D → Hst → Res D) (fo : Ev) (fa : Evs) (en : En) (h : Hst) : vM T g fo fa en h = (fo en h).bind fun x h1 => if tyD x h1 = some T then (fa en h1).bind fun ds h2 => g x ds h2 else .bad := (rfl)
@[simp] theorem vF_ap (np : Nat) (g : List D → Hst → Res D) (f : Evs) (en : En) (h : Hst) : vF np g f en h = (f en h).bind fun ds h1 => if ds.length = np then g ds h1 else .bad := (rfl)
@[simp] theorem sNil_ap (en : En) (h : Hst) : sNil en h = .nx en h := (rfl)
@[simp] theorem sSeq_ap (f g : Sm) (en : En) (h : Hst) : sSeq f g en h = thenS (f en h) g := (rfl)
@[simp] theorem sExpr_ap (f : Ev) (en : En) (h : Hst) : sExpr f en h = bindS (f en h) en fun _ h1 => .nx en h1 := (rfl)
@[simp] theorem sSet_ap (i : Nat) (f : Ev) (en : En) (h : Hst) : sSet i f en h = bindS (f en h) en fun d h1 => .nx (en.set i (some d)) h1 := (rfl)
@[simp] theorem sRet_ap (f : Ev) (en : En) (h : Hst) : sRet f en h = bindS (f en h) en fun d h1 => .rt d h1 := (rfl)
@[simp] theorem sRetN_ap (en : En) (h : Hst) : sRetN en h = .rt .non h := (rfl)
@[simp] theorem sIf_ap (t : EvT) (f g : Sm) (en : En) (h : Hst) : sIf t f g en h = bindS (t en h) en fun b h1 => match b with | true => f en h1 | false => g en h1 := (rfl)
@[simp] theorem sBrk_ap (en : En) (h : Hst) : sBrk en h = .bk en h := (rfl)
@[simp] theorem sCt_ap (en : En) (h : Hst) : sCt en h = .ct en h := (rfl)
@[simp] theorem gNm_ap (i : Nat) (d : D) (en : En) : gNm i d en = some (en.set i (some d)) := (rfl)
@[simp] theorem sAsg_ap (g : Tg) (f : Ev) (en : En) (h : Hst) : sAsg g f en h = bindS (f en h) en fun d h1 => match g d en with | some en' => .nx en' h1 | none => .bad := (rfl)
@[simp] theorem sAug_ap (i : Nat) (g : D → D → Hst → Res D) (f : Ev) (en : En) (h : Hst) : sAug i g f en h = match en[i]? with
  | some (some x) => bindS (f en h) en fun y h1 => bindS (g x y h1) en fun z h2 => .nx (en.set i (some z)) h2
  | _ => .bad := (rfl)
@[simp] theorem sIx_ap (fo fi fv : Ev) (en : En) (h : Hst) : sIx fo fi fv en h = bindS (fv en h) en fun v h1 => bindS (fo en h1) en fun o h2 => bindS (fi en h2) en fun i h3 => match setD o i v h3 with
  | some h4 => .nx en h4
  | none => .bad := (rfl)
@[simp] theorem iSeq_ap (f : Ev) (en : En) (h : Hst) : iSeq f en h = (f en h).bind fun d h1 => iterD d h1 := (rfl)
def rng1K (ds : List D) (h1 : Hst) : Res (List D × Chk) := match ds with
  | [.int j] => if -4611686018427387904 ≤ j ∧ j < 4611686018427387904 then .ok (rngD 0 j.toNat, .none) h1 else .bad
  | _ => .bad
def rng2K (ds : List D) (h1 : Hst) : Res (List D × Chk) := match ds with
  | [.int i, .int j] => if -4611686018427387904 ≤ i ∧ i < 4611686018427387904 ∧ -4611686018427387904 ≤ j ∧ j < 4611686018427387904 then .ok (rngD i (j - i).toNat, .none) h1 else .bad
  | _ => .bad
@[simp] theorem iRng1_ap (f : Evs) (en : En) (h : Hst) : iRng1 f en h = (f en h).bind rng1K := (rfl)
@[simp] theorem iRng2_ap (f : Evs) (en : En) (h : Hst) : iRng2 f en h = (f en h).bind rng2K := (rfl)
@[simp] theorem rng1K_int {j : Int} (h : Hst) (h1 : -4611686018427387904 ≤ j) (h2 : j < 4611686018427387904) : rng1K [.int j] h = .ok (rngD 0 j.toNat, .none) h := by
  unfold rng1K
  exact if_pos ⟨h1, h2⟩
theorem rng1K_nat {j : Nat} (h : Hst) (h2 : j < 1000000000) : rng1K [.int j] h = .ok (rngD 0 j, .none) h := rng1K_int h (by omega) (by omega)
theorem rng2K_int {i j : Int} (h : Hst) (h1 : -1000000000 ≤ i) (h2 : i < 1000000000) (h3 : -1000000000 ≤ j) (h4 : j < 1000000000) : rng2K [.int i, .int j] h = .ok (rngD i (j - i).toNat, .none) h := by
  unfold rng2K
  exact if_pos ⟨by omega, by omega, by omega, by omega⟩
@[simp] theorem sFor_ap (f : EvI) (g : Tg) (b : Sm) (en : En) (h : Hst) : sFor f g b en h = match f en h with
  | .ok a h1 => forL a.2 g b a.1 en h1
  | .err x h1 => .err x en h1
  | .bad => .bad := (rfl)
@[simp] theorem vLc_ap (vs : List Nat) (i : EvI) (g : Tg) (t : EvT) (f : Ev) (en : En) (h : Hst) : vLc vs i g t f en h = match i en h with
  | .ok a h1 => (lcL a.2 g t f (wipeE en vs) a.1 [] h1).bind fun ds h2 => .ok (.ref h2.length) (h2 ++ [.lst ds])
  | .err x h1 => .err x h1
  | .bad => .bad := (rfl)
/-- the last object -/
@[simp] theorem get_app (h l : Hst) : (h ++ l)[h.length]? = l[0]? := by rw [List.getElem?_append_right (Nat.le_refl _), Nat.sub_self]
@[simp] theorem get_app2 (h l : Hst) (i : Nat) : (h ++ l)[h.length + i]? = l[i]? := by rw [List.getElem?_append_right (Nat.le_add_right _ _), Nat.add_sub_cancel_left]
theorem get_old {h l : Hst} {n : Nat} {o : O} (e : h[n]? = some o) : (h ++ l)[n]? = some o := by
  rw [List.getElem?_append_left (List.getElem?_eq_some_iff.mp e).1]; exact e
@[simp] theorem set_app (h l : Hst) (o : O) : (h ++ l).set h.length o = h ++ l.set 0 o := by
  rw [List.set_append, if_neg (Nat.lt_irrefl _), Nat.sub_self]
@[simp] theorem set_app2 (h l : Hst) (i : Nat) (o : O) : (h ++ l).set (h.length + i) o = h ++ l.set i o := by
  rw [List.set_append, if_neg (by omega), Nat.add_sub_cancel_left]
/-! ### loops: what holds between two turns -/
def SR.sat (r : SR) (N : En → Hst → Prop) (R : D → Hst → Prop) : Prop := match r with
  | .nx en h => N en h
  | .ct en h => N en h
  | .rt d h => R d h
  | _ => False
theorem forL_sat {chk : Chk} {g : Tg} {b : Sm} (R : D → Hst → Prop) : ∀ (items : List D) (I : Nat → En → Hst → Prop) (en : En) (h : Hst), I 0 en h →
    (∀ i en h, i ≤ items.length → I i en h → chk.ok h) → (∀ i x en h, items[i]? = some x → I i en h → ∃ en1, g x en = some en1 ∧ (b en1 h).sat (I (i + 1)) R) → (forL chk g b items en h).sat (I items.length) R
  | [], I, en, h, h0, hc, hs => by
    unfold forL
    rw [if_pos (hc 0 en h (Nat.le_refl _) h0)]
    exact h0
  | x :: xs, I, en, h, h0, hc, hs => by
    unfold forL
    rw [if_pos (hc 0 en h (Nat.zero_le _) h0)]
    obtain ⟨en1, e1, q⟩ := hs 0 x en h rfl h0
    rw [e1]
    dsimp only
    have go : ∀ en2 h2, I 1 en2 h2 → (forL chk g b xs en2 h2).sat (I (x :: xs).length) R := fun en2 h2 q =>
      forL_sat R xs (fun i => I (i + 1)) en2 h2 q (fun i en h hi => hc (i + 1) en h (by simp; omega)) fun i y en h hy => hs (i + 1) y en h (by simpa using hy)
    cases eb : b en1 h with
    | nx en2 h2 => rw [eb] at q; exact go en2 h2 q
    | ct en2 h2 => rw [eb] at q; exact go en2 h2 q
    | rt d h2 => rw [eb] at q; exact q
    | bk en2 h2 => rw [eb] at q; exact q.elim
    | err x en2 h2 => rw [eb] at q; exact q.elim
    | bad => rw [eb] at q; exact q.elim
theorem sat_nx {r : SR} {N : En → Hst → Prop} (h : r.sat N (fun _ _ => False)) (nc : ∀ en h, r ≠ .ct en h) : ∃ en h, r = .nx en h ∧ N en h := by
  cases r with
  | nx en h1 => exact ⟨en, h1, rfl, h⟩
  | ct en h1 => exact absurd rfl (nc en h1)
  | _ => exact h.elim
theorem forL_nc {chk : Chk} {g : Tg} {b : Sm} : ∀ (items : List D) (en en' : En) (h h' : Hst), forL chk g b items en h ≠ .ct en' h'
  | [], en, en', h, h' => by unfold forL; split <;> simp
  | x :: xs, en, en', h, h' => by
    unfold forL
    split
    · split
      · split <;> first | exact forL_nc _ _ _ _ _ | simp_all
      · simp
    · simp
/-- a loop that runs to its end -/
theorem forL_end {chk : Chk} {g : Tg} {b : Sm} (items : List D) (I : Nat → En → Hst → Prop) (en : En) (h : Hst) (h0 : I 0 en h)
    (hc : ∀ i en h, i ≤ items.length → I i en h → chk.ok h) (hs : ∀ i x en h, items[i]? = some x → I i en h → ∃ en1, g x en = some en1 ∧ (b en1 h).sat (I (i + 1)) fun _ _ => False) : ∃ en' h', forL chk g b items en h = .nx en' h' ∧ I items.length en' h' :=
  sat_nx (forL_sat _ items I en h h0 hc hs) fun en' h' => forL_nc items en en' h h'
/-- a comprehension whose element makes nothing -/
theorem lcL_map {chk : Chk} {g : Tg} {f : Ev} {en : En} {h : Hst} (hk : chk.ok h) {u : D → D} : ∀ (items acc : List D), acc.length + items.length ≤ 16777216 →
    (∀ x ∈ items, ∃ en1, g x en = some en1 ∧ f en1 h = .ok (u x) h) → lcL chk g tsN f en items acc h = .ok (acc ++ items.map u) h
  | [], acc, _, _ => by unfold lcL; rw [if_pos hk]; simp
  | x :: xs, acc, hl, hs => by
    obtain ⟨en1, e1, e2⟩ := hs x List.mem_cons_self
    have hl2 : acc.length + (xs.length + 1) ≤ 16777216 := by simpa using hl
    unfold lcL
    rw [if_pos hk, e1]
    dsimp only [tsN]
    rw [e2]
    dsimp only
    rw [if_pos (by omega), lcL_map hk xs (acc ++ [u x]) (by simp; omega) fun y hy => hs y (List.mem_cons_of_mem _ hy)]
    simp
/-- a def's run, its end apart -/
def finR (h : Hst) (r : SR) : Res D := match r with
  | .nx _ h' => finish h .non h'
  | .rt d h' => finish h d h'
  | .err x _ h' => finishX h x h'
  | _ => .bad
theorem runF_eq (ns : Nat) (b : Sm) (ds : List D) (h : Hst) : runF ns b ds h = finR h (b (ds.map some ++ List.replicate (ns - ds.length) none) h) := (rfl)
@[simp] theorem finR_rt (h : Hst) (d : D) (h' : Hst) : finR h (.rt d h') = finish h d h' := (rfl)
@[simp] theorem finR_nx (h : Hst) (en : En) (h' : Hst) : finR h (.nx en h') = finish h .non h' := (rfl)
@[simp] theorem finR_err (h : Hst) (x : Ex) (en : En) (h' : Hst) : finR h (.err x en h') = finishX h x h' := (rfl)
end Mi

namespace Mi
open PySem PySem.Spec PyProof.Rows L2

/-! ### what the operations say of plain values -/
@[simp] theorem addD_int (i j : Int) (h : Hst) : addD (.int i) (.int j) h = .ok (.int (i + j)) h := (rfl)
@[simp] theorem addS_int (i j : Int) (h : Hst) : addS (.int i) (.int j) h = .ok (.int (i + j)) h := (rfl)
theorem addD_str {s t : List Nat} (h : Hst) (hl : s.length + t.length ≤ 16777216) : addD (.str s) (.str t) h = .ok (.str (s ++ t)) h := by simp [addD, hl]
@[simp] theorem subD_int (i j : Int) (h : Hst) : subD (.int i) (.int j) h = .ok (.int (i - j)) h := (rfl)
@[simp] theorem mulD_r (i j : Int) (h : Hst) (h1 : -18446744073709551616 < j) (h2 : j < 18446744073709551616) : mulD (.int i) (.int j) h = .ok (.int (i * j)) h := by simp [mulD, mulI, intG, okMul, h1, h2]
theorem mulD_l (i j : Int) (h : Hst) (h1 : -18446744073709551616 < i) (h2 : i < 18446744073709551616) : mulD (.int i) (.int j) h = .ok (.int (i * j)) h := by simp [mulD, mulI, intG, okMul, h1, h2]
@[simp] theorem divD_int (i j : Int) (h : Hst) (h1 : 0 < j) (h2 : j < 1073741824) : divD (.int i) (.int j) h = .ok (.int (i / j)) h := by simp [divD, intG, okDiv, h1, h2]
@[simp] theorem modD_int (i j : Int) (h : Hst) (h1 : 0 < j) : modD (.int i) (.int j) h = .ok (.int (i % j)) h := by simp [modD, intG, okMod, h1]
@[simp] theorem powD_lit (h : Hst) : powD (.int 10) (.int 18) h = .ok (.int 1000000000000000000) h := by simp [powD, intG, okPow]
@[simp] theorem ltD_int (i j : Int) (h : Hst) : ltD (.int i) (.int j) h = .ok (.bl (decide (i < j))) h := (rfl)
@[simp] theorem leD_int (i j : Int) (h : Hst) : leD (.int i) (.int j) h = .ok (.bl (decide (i ≤ j))) h := (rfl)
@[simp] theorem gtD_int (i j : Int) (h : Hst) : gtD (.int i) (.int j) h = .ok (.bl (decide (j < i))) h := (rfl)
@[simp] theorem geD_int (i j : Int) (h : Hst) : geD (.int i) (.int j) h = .ok (.bl (decide (j ≤ i))) h := (rfl)
@[simp] theorem negD_int (i : Int) (h : Hst) : negD (.int i) h = .ok (.int (-i)) h := (rfl)
@[simp] theorem eqD_int (i j : Int) (h : Hst) : eqD (.int i) (.int j) h = .ok (.bl (i == j)) h := (rfl)
@[simp] theorem eqD_bl (i j : Bool) (h : Hst) : eqD (.bl i) (.bl j) h = .ok (.bl (i == j)) h := (rfl)
@[simp] theorem eqD_str (i j : List Nat) (h : Hst) : eqD (.str i) (.str j) h = .ok (.bl (decide (i = j))) h := (rfl)
@[simp] theorem neD_int (i j : Int) (h : Hst) : neD (.int i) (.int j) h = .ok (.bl (!(i == j))) h := (rfl)
@[simp] theorem neD_bl (i j : Bool) (h : Hst) : neD (.bl i) (.bl j) h = .ok (.bl (!(i == j))) h := (rfl)
@[simp] theorem neD_str (i j : List Nat) (h : Hst) : neD (.str i) (.str j) h = .ok (.bl (!decide (i = j))) h := (rfl)
@[simp] theorem intC_int (i : Int) (h : Hst) : intC [.int i] h = .ok (.int i) h := (rfl)
@[simp] theorem intC_bl (k : Bool) (h : Hst) : intC [.bl k] h = .ok (.int (if k then 1 else 0)) h := (rfl)
@[simp] theorem absD_int (i : Int) (h : Hst) : absD [.int i] h = .ok (.int (if i < 0 then -i else i)) h := (rfl)
@[simp] theorem lenD_str (s : List Nat) (h : Hst) : lenD [.str s] h = .ok (.int s.length) h := (rfl)
@[simp] theorem lenD_tup (s : List D) (h : Hst) : lenD [.tup s] h = .ok (.int s.length) h := (rfl)
@[simp] theorem lenD_sl (s : List D) (h : Hst) : lenD [.sl s] h = .ok (.int s.length) h := (rfl)
theorem lenD_lst {n : Nat} {s : List D} {h : Hst} (e : h[n]? = some (.lst s)) : lenD [.ref n] h = .ok (.int s.length) h := by simp [lenD, e]
theorem strC_int {i : Int} (h : Hst) (e : i.natAbs < 1000000000000000000000000000000000000000000000000000000000000) : strC [.int i] h = .ok (.str (decI i)) h := if_pos e
@[simp] theorem truD_bl (b : Bool) (h : Hst) : truD (.bl b) h = .ok b h := (rfl)
theorem atI_nat {α : Type} (xs : List α) (k : Nat) : atI xs (k : Int) = xs[k]? := by
  unfold atI
  by_cases hk : k < xs.length
  · unfold ixN
    rw [if_pos (by omega), if_pos (by omega)]
    rfl
  · rw [List.getElem?_eq_none (by omega)]
    unfold ixN
    rw [if_pos (by omega), if_neg (by omega)]
    rfl
@[simp] theorem rngD_zero (i : Int) : rngD i 0 = [] := (rfl)
theorem rngD_at {lo : Int} {n i : Nat} (hi : i < n) : (rngD lo n)[i]? = some (.int (lo + i)) := by
  have e : i < (rngD lo n).length := by rw [rngD_len]; exact hi
  have := (rngD_get (List.getElem?_eq_getElem e)).2
  rw [List.getElem?_eq_getElem e, this]
/-- the answer of a function that makes one object and leaves the others -/
theorem finish_new (h : Hst) (o : O) (l : List O) (f : o.flat = true) : finish h (.ref h.length) (h ++ o :: l) = .ok (.ref h.length) (h ++ [o]) := by
  unfold finish
  rw [if_neg (by simp), if_pos (by simp)]
  dsimp only
  rw [if_neg (Nat.lt_irrefl _), get_app]
  simp [f]
theorem finish_newk (h : Hst) (l : List O) (k : Nat) (o : O) (e : l[k]? = some o) (f : o.flat = true) : finish h (.ref (h.length + k)) (h ++ l) = .ok (.ref h.length) (h ++ [o]) := by
  have hl : k < l.length := (List.getElem?_eq_some_iff.mp e).1
  unfold finish
  rw [if_neg (by simp; intro q; rw [q] at hl; simp at hl), if_pos (by simp)]
  dsimp only
  rw [if_neg (by omega), get_app2, e]
  simp [f]
@[simp] theorem finish_same (h : Hst) (d : D) : finish h d h = .ok d h := by
  unfold finish
  rw [if_pos rfl]
theorem finish_drop (h l : Hst) (d : D) (f : d.noRef = true) : finish h d (h ++ l) = .ok d h := by
  unfold finish
  split
  · rename_i e
    have : l = [] := by simpa using e
    subst this
    simp
  · rw [if_pos (by simp)]
    cases d <;> first | (simp [D.noRef] at f; done) | exact if_pos f
theorem noRefs_int : ∀ ds : List Int, D.noRefs (ds.map .int) = true
  | [] => rfl
  | d :: ds => by simp [D.noRefs, D.noRef, noRefs_int ds]
theorem noRefs_str : ∀ ds : List (List Nat), D.noRefs (ds.map .str) = true
  | [] => rfl
  | d :: ds => by simp [D.noRefs, D.noRef, noRefs_str ds]
theorem allFlat_str : ∀ ds : List (List Nat), (ds.map D.str).all flatD = true
  | [] => rfl
  | d :: ds => by
    rw [List.map_cons, List.all_cons, allFlat_str ds]; rfl

/-! ### the laws' small functions -/
def B_cell : Sm :=
    sSeq (sIf (tV (vB ltD (vVar 1) (vCall lenD (aCons (vVar 0) (aNil))))) (sRet (vB ixD (vVar 0) (vVar 1))) (sNil)) <|
    sRet (vC (.int 0))
theorem run_cell (ns : List Int) (k : Nat) (h : Hst) : runF 2 B_cell [.sl (ns.map .int), .int k] h = .ok (.int (ns.getD k 0)) h := by
  unfold runF B_cell
  by_cases hk : k < ns.length
  · simp [hk, ixD, atI_nat]
  · simp [hk]
theorem run_at (ns : List Int) (k a : Nat) (h : Hst) (e : h[a]? = some (.lst (ns.map .int))) : runF 2 B_cell [.ref a, .int k] h = .ok (.int (ns.getD k 0)) h := by
  unfold runF B_cell
  by_cases hk : k < ns.length
  · simp [hk, ixD, atI_nat, lenD_lst e, e]
  · simp [hk, lenD_lst e]
def B_digits (b : Int) : Sm :=
    sSeq (sSet 3 (vLst (aNil))) <|
    sSeq (sSet 4 (vCall absD (aCons (vVar 0) (aNil)))) <|
    sSeq (sIf (tV (vB geD (vVar 4) (vB powD (vC (.int 10)) (vC (.int 18))))) (sSeq (sFor (iRng1 (aCons (vVar 1) (aNil))) (gNm 5) (sIf (tV (vB gtD (vVar 4) (vC (.int 0)))) (sSeq (sExpr (vM .list appendM (vVar 3) (aCons (vB modD (vVar 4) (vC (.int b))) (aNil)))) <|
    sSet 4 (vB divD (vVar 4) (vC (.int b)))) (sNil))) <|
    sRet (vVar 3)) (sNil)) <|
    sSeq (sSet 6 (vB addD (vB addD (vB mulD (vVar 4) (vC (.int 48271))) (vB mulD (vVar 2) (vC (.int 69621)))) (vC (.int 12345)))) <|
    sSeq (sFor (iRng1 (aCons (vVar 1) (aNil))) (gNm 5) (sSeq (sSet 6 (vB modD (vCall intC (aCons (vB addD (vB addD (vB mulD (vVar 6) (vC (.int 48271))) (vC (.int 11))) (vVar 5)) (aNil))) (vC (.int 2147483647)))) <|
    sExpr (vM .list appendM (vVar 3) (aCons (vB modD (vB divD (vB modD (vCall intC (aCons (vB addD (vB mulD (vVar 6) (vC (.int 69621))) (vVar 2)) (aNil))) (vC (.int 2147483629))) (vC (.int 7))) (vC (.int b))) (aNil))))) <|
    sRet (vVar 3)
theorem appendM_at (h : Hst) (l : List D) (d : D) (hl : l.length < 16777216) : appendM (.ref h.length) [d] (h ++ [.lst l]) = .ok .non (h ++ [.lst (l ++ [d])]) := by
  unfold appendM
  dsimp only
  rw [get_app]
  simp [hl]
@[simp] theorem tyD_at (h : Hst) (l : List D) : tyD (.ref h.length) (h ++ [.lst l]) = some .list := by
  unfold tyD
  dsimp only
  rw [get_app]
  rfl
theorem range_get {lo : Int} {n i : Nat} {x : D} (e : (rngD lo n)[i]? = some x) : i < n ∧ x = .int (lo + i) := rngD_get e
theorem run_digits (b : Int) (hb : 0 < b) (hb2 : b < 1073741824) (c salt : Int) (many : Nat) (hm : many ≤ 1000000) (h : Hst) : ∃ ds : List Int, ds.length ≤ many ∧ (∀ d ∈ ds, 0 ≤ d ∧ d < b) ∧ runF 7 (B_digits b) [.int c, .int many, .int salt] h = .ok (.ref h.length) (h ++ [.lst (ds.map .int)]) := by
  unfold runF B_digits
  generalize hr : (if c < 0 then -c else c) = r
  have hmod : ∀ z : Int, 0 ≤ z % b ∧ z % b < b := fun z => ⟨Int.emod_nonneg _ (by omega), Int.emod_lt_of_pos _ hb⟩
  by_cases hc : (1000000000000000000 : Int) ≤ r
  · obtain ⟨en', h', e, x5, r', ds, h1, h2, h3, h4⟩ := forL_end (chk := .none) (g := gNm 5) (b := sIf (tV (vB gtD (vVar 4) (vC (.int 0)))) (sSeq (sExpr (vM .list appendM (vVar 3) (aCons (vB modD (vVar 4) (vC (.int b))) (aNil)))) <|
      sSet 4 (vB divD (vVar 4) (vC (.int b)))) (sNil)) (rngD 0 many)
      (fun i en h' => ∃ (x5 : Option D) (r' : Int) (ds : List Int), en = [some (.int c), some (.int many), some (.int salt), some (.ref h.length), some (.int r'), x5, none] ∧ h' = h ++ [.lst (ds.map .int)] ∧ ds.length ≤ i ∧ ∀ d ∈ ds, 0 ≤ d ∧ d < b)
      [some (.int c), some (.int many), some (.int salt), some (.ref h.length), some (.int r), none, none] (h ++ [.lst []]) ⟨none, r, [], rfl, rfl, Nat.le_refl _, by simp⟩ (fun _ _ _ _ _ => trivial)
      (fun i x en h' hx ⟨x5, r', ds, h1, h2, h3, h4⟩ => by
        obtain ⟨hi, rfl⟩ := range_get hx
        subst h1 h2
        refine ⟨_, rfl, ?_⟩
        by_cases h0 : 0 < r'
        · simp [h0, hb, hb2, SR.sat]
          rw [appendM_at _ _ _ (by simp; omega)]
          simp [hb, hb2]
          refine ⟨ds ++ [r' % b], by simp, by simp; omega, ?_⟩
          intro d hd
          rcases List.mem_append.mp hd with hd | hd
          · exact h4 d hd
          · have : d = r' % b := by simpa using hd
            rw [this]; exact hmod _
        · simp [h0, SR.sat]
          exact ⟨ds, rfl, by omega, h4⟩)
    subst h1 h2
    rw [rngD_len] at h3
    refine ⟨ds, h3, h4, ?_⟩
    simp [hr, hc, rng1K_nat (j := many) _ (by omega), e]
    exact finish_new _ _ _ (by simp [O.flat, noRefs_int])
  · obtain ⟨en', h', e, x5, r', ds, h1, h2, h3, h4⟩ := forL_end (chk := .none) (g := gNm 5) (b := (sSeq (sSet 6 (vB modD (vCall intC (aCons (vB addD (vB addD (vB mulD (vVar 6) (vC (.int 48271))) (vC (.int 11))) (vVar 5)) (aNil))) (vC (.int 2147483647)))) <|
    sExpr (vM .list appendM (vVar 3) (aCons (vB modD (vB divD (vB modD (vCall intC (aCons (vB addD (vB mulD (vVar 6) (vC (.int 69621))) (vVar 2)) (aNil))) (vC (.int 2147483629))) (vC (.int 7))) (vC (.int b))) (aNil))))) (rngD 0 many)
      (fun i en h' => ∃ (x5 : Option D) (r' : Int) (ds : List Int), en = [some (.int c), some (.int many), some (.int salt), some (.ref h.length), some (.int r), x5, some (.int r')] ∧ h' = h ++ [.lst (ds.map .int)] ∧ ds.length ≤ i ∧ ∀ d ∈ ds, 0 ≤ d ∧ d < b)
      [some (.int c), some (.int many), some (.int salt), some (.ref h.length), some (.int r), none, some (.int (r * 48271 + salt * 69621 + 12345))] (h ++ [.lst []]) ⟨none, _, [], rfl, rfl, Nat.le_refl _, by simp⟩ (fun _ _ _ _ _ => trivial)
      (fun i x en h' hx ⟨x5, r', ds, h1, h2, h3, h4⟩ => by
        obtain ⟨hi, rfl⟩ := range_get hx
        subst h1 h2
        refine ⟨_, rfl, ?_⟩
        simp [hb, hb2, SR.sat]
        rw [appendM_at _ _ _ (by simp; omega)]
        simp [hb, hb2]
        generalize (r' * 48271 + 11 + ↑i) % 2147483647 * 69621 + salt = z
        refine ⟨ds ++ [z % 2147483629 / 7 % b], by simp, by simp; omega, ?_⟩
        intro d hd
        rcases List.mem_append.mp hd with hd | hd
        · exact h4 d hd
        · have : d = z % 2147483629 / 7 % b := by simpa using hd
          rw [this]; exact hmod _)
    subst h1 h2
    rw [rngD_len] at h3
    refine ⟨ds, h3, h4, ?_⟩
    simp [hr, hc, rng1K_nat (j := many) _ (by omega), e]
    exact finish_new _ _ _ (by simp [O.flat, noRefs_int])
/-- the number at a place, or 0 -/
def atZ (xs : List Int) (k : Int) : Int := xs.getD k.toNat 0
theorem run_cellI (ns : List Int) (k : Int) (hk : 0 ≤ k) (h : Hst) : runF 2 B_cell [.sl (ns.map .int), .int k] h = .ok (.int (atZ ns k)) h := by
  have := run_cell ns k.toNat h
  rwa [Int.toNat_of_nonneg hk] at this
theorem run_atI (ns : List Int) (k : Int) (hk : 0 ≤ k) (a : Nat) (h : Hst) (e : h[a]? = some (.lst (ns.map .int))) : runF 2 B_cell [.ref a, .int k] h = .ok (.int (atZ ns k)) h := by
  have := run_at ns k.toNat a h e
  rwa [Int.toNat_of_nonneg hk] at this
/-! ### more loops -/
theorem lcL_sat {chk : Chk} {g : Tg} {t : EvT} {f : Ev} {en : En} : ∀ (items : List D) (I : Nat → List D → Hst → Prop) (acc : List D) (h : Hst), I 0 acc h → (∀ i acc h, i ≤ items.length → I i acc h → chk.ok h) →
    (∀ i x acc h, items[i]? = some x → I i acc h → ∃ en1, g x en = some en1 ∧ ((∃ h1, t en1 h = .ok false h1 ∧ I (i + 1) acc h1) ∨ ∃ h1 d h2, t en1 h = .ok true h1 ∧ f en1 h1 = .ok d h2 ∧ acc.length < 16777216 ∧ I (i + 1) (acc ++ [d]) h2)) →
    ∃ ds h', lcL chk g t f en items acc h = .ok ds h' ∧ I items.length ds h'
  | [], I, acc, h, h0, hc, hs => ⟨acc, h, by unfold lcL; rw [if_pos (hc 0 _ _ (Nat.le_refl _) h0)], h0⟩
  | x :: xs, I, acc, h, h0, hc, hs => by
    have go : ∀ acc2 h2, I 1 acc2 h2 → ∃ ds h', lcL chk g t f en xs acc2 h2 = .ok ds h' ∧ I (x :: xs).length ds h' := fun acc2 h2 q =>
      lcL_sat xs (fun i => I (i + 1)) acc2 h2 q (fun i a h hi => hc (i + 1) a h (by simp; omega)) fun i y a h hy => hs (i + 1) y a h (by simpa using hy)
    unfold lcL
    rw [if_pos (hc 0 _ _ (Nat.zero_le _) h0)]
    obtain ⟨en1, e1, q | q⟩ := hs 0 x acc h rfl h0
    · obtain ⟨h1, e2, q⟩ := q
      rw [e1]; dsimp only; rw [e2]; exact go _ _ q
    · obtain ⟨h1, d, h2, e2, e3, hl, q⟩ := q
      rw [e1]; dsimp only; rw [e2]; dsimp only; rw [e3]; dsimp only; rw [if_pos hl]; exact go _ _ q
/-- a walk that gives up at the first item that fails -/
theorem forL_all {chk : Chk} {g : Tg} {b : Sm} {r : D} {h : Hst} (hc : chk.ok h) : ∀ (items : List D) (p : Nat → Bool) (I : En → Prop) (en : En), I en →
    (∀ i x en, items[i]? = some x → I en → ∃ en1, g x en = some en1 ∧ if p i = true then ∃ en2, b en1 h = .nx en2 h ∧ I en2 else b en1 h = .rt r h) →
    ((∀ i, i < items.length → p i = true) → ∃ en', forL chk g b items en h = .nx en' h ∧ I en') ∧ ((∃ i, i < items.length ∧ p i = false) → forL chk g b items en h = .rt r h)
  | [], p, I, en, h0, hs => ⟨fun _ => ⟨en, by unfold forL; rw [if_pos hc], h0⟩, fun ⟨i, hi, _⟩ => absurd hi (Nat.not_lt_zero _)⟩
  | x :: xs, p, I, en, h0, hs => by
    obtain ⟨en1, e1, q⟩ := hs 0 x en rfl h0
    unfold forL
    rw [if_pos hc, e1]
    dsimp only
    by_cases hp : p 0 = true
    · rw [if_pos hp] at q
      obtain ⟨en2, e2, q⟩ := q
      rw [e2]
      dsimp only
      have go := forL_all hc xs (fun i => p (i + 1)) I en2 q fun i y en hy => hs (i + 1) y en (by simpa using hy)
      refine ⟨fun ha => go.1 fun i hi => ha (i + 1) (by simp; omega), fun ⟨i, hi, hf⟩ => ?_⟩
      cases i with
      | zero => rw [hp] at hf; cases hf
      | succ i => exact go.2 ⟨i, by simpa using hi, hf⟩
    · rw [if_neg hp] at q
      rw [q]
      exact ⟨fun ha => absurd (ha 0 (by simp)) hp, fun _ => rfl⟩
theorem whileL_run {t : EvT} {b : Sm} : ∀ (N g : Nat) (I : Nat → En → Hst → Prop) (en : En) (h : Hst), N < g → I 0 en h →
    (∀ i en h, i < N → I i en h → t en h = .ok true h ∧ ∃ en' h', b en h = .nx en' h' ∧ I (i + 1) en' h') → (∀ en h, I N en h → t en h = .ok false h) → ∃ en' h', whileL t b g en h = .nx en' h' ∧ I N en' h'
  | _, 0, _, _, _, hg, _, _, _ => absurd hg (Nat.not_lt_zero _)
  | 0, g + 1, I, en, h, hg, h0, hs, he => ⟨en, h, by unfold whileL; rw [he en h h0]; rfl, h0⟩
  | N + 1, g + 1, I, en, h, hg, h0, hs, he => by
    obtain ⟨e1, en', h', e2, q⟩ := hs 0 en h (Nat.succ_pos _) h0
    unfold whileL
    rw [e1]
    dsimp only [bindS]
    rw [e2]
    exact whileL_run N g (fun i => I (i + 1)) en' h' (Nat.lt_of_succ_lt_succ hg) q (fun i en h hi => hs (i + 1) en h (Nat.succ_lt_succ hi)) he
/-! ### numbers as texts -/
theorem decI_nat (k : Nat) : decI (k : Int) = (Nat.toDigits 10 k).map Char.toNat := by
  unfold decI
  have : toString (k : Int) = Nat.repr k := rfl
  rw [this]
  simp [Nat.repr]
theorem map_inj {α β : Type} {f : α → β} (hf : ∀ a b, f a = f b → a = b) : ∀ {l m : List α}, l.map f = m.map f → l = m
  | [], [], _ => rfl
  | [], _ :: _, e => by simp at e
  | _ :: _, [], e => by simp at e
  | a :: l, b :: m, e => by
    simp only [List.map_cons, List.cons.injEq] at e
    rw [hf _ _ e.1, map_inj hf e.2]
theorem decI_inj {i j : Nat} (e : decI i = decI j) : i = j := by
  rw [decI_nat, decI_nat] at e
  have := map_inj (fun a b => Char.toNat_inj.mp) e
  rw [← Nat.ofDigitChars_ten_toDigits (n := i), this, Nat.ofDigitChars_ten_toDigits]
theorem decI_lenN {i : Nat} (h : i < 1000000000000) : (decI i).length ≤ 62 := decI_len (Nat.lt_trans (by simpa using h) (by decide))
theorem strC_nat {i : Nat} (h : Hst) (e : i < 1000000000000) : strC [.int i] h = .ok (.str (decI i)) h := strC_int h (Nat.lt_trans (by simpa using e) (by decide))
/-! ### lists of texts -/
theorem atI_map {α β : Type} (f : α → β) (xs : List α) (i : Int) : atI (xs.map f) i = (atI xs i).map f := by
  unfold atI
  rw [List.length_map]
  cases ixN xs.length i <;> simp
theorem atI_ex {α : Type} {xs : List α} {i : Int} (h0 : 0 ≤ i) (h1 : i < xs.length) : ∃ x ∈ xs, atI xs i = some x := by
  have e : i.toNat < xs.length := by omega
  refine ⟨xs[i.toNat], List.getElem_mem e, ?_⟩
  have := atI_nat xs i.toNat
  rw [Int.toNat_of_nonneg h0] at this
  rw [this, List.getElem?_eq_getElem e]
theorem cutL_map {α β : Type} (f : α → β) (xs : List α) (lo hi : Option Int) : cutL (xs.map f) lo hi = (cutL xs lo hi).map f := by
  unfold cutL
  rw [List.length_map, List.map_take, List.map_drop]

@[simp] theorem slD_ref {n : Nat} {xs : List D} {h : Hst} (lo hi : Option Int) (e : h[n]? = some (.lst xs)) : slD (.ref n) lo hi h = .ok (.ref h.length) (h ++ [.lst (cutL xs lo hi)]) := by simp [slD, e]
theorem finish_bl (h h' : Hst) (b : Bool) : ∃ h2, finish h (.bl b) h' = .ok (.bl b) h2 := by
  unfold finish
  split
  · exact ⟨_, rfl⟩
  · split
    · exact ⟨_, rfl⟩
    · exact ⟨_, rfl⟩
theorem anyEq_str (ts : List (List Nat)) (s : List Nat) : (ts.map D.str).any (fun z => eqF z (.str s)) = ts.contains s := by
  induction ts with
  | nil => rfl
  | cons t ts ih =>
    rw [List.map_cons, List.any_cons, ih, List.contains_cons]
    congr 1
    simp only [eqF]
    by_cases e : t = s
    · subst e; simp
    · have e2 : ¬ s = t := fun x => e x.symm
      simp [e, e2]
theorem nin_lst {n : Nat} {ts : List (List Nat)} {h : Hst} (s : List Nat) (e : h[n]? = some (.lst (ts.map .str))) : ninD (.str s) (.ref n) h = .ok (.bl (!ts.contains s)) h := by
  unfold ninD inB
  dsimp only
  rw [e]
  dsimp only
  rw [if_pos ⟨rfl, allFlat_str ts⟩, anyEq_str]
theorem nin_tup (ts : List (List Nat)) (s : List Nat) (h : Hst) : ninD (.str s) (.tup (ts.map .str)) h = .ok (.bl (!ts.contains s)) h := by
  unfold ninD inB
  dsimp only
  rw [if_pos ⟨rfl, allFlat_str ts⟩, anyEq_str]
@[simp] theorem nin_str (c : Nat) (s : List Nat) (h : Hst) : ninD (.str [c]) (.str s) h = .ok (.bl (!decide (c ∈ s))) h := (rfl)
@[simp] theorem in_str (c : Nat) (s : List Nat) (h : Hst) : inD (.str [c]) (.str s) h = .ok (.bl (decide (c ∈ s))) h := (rfl)
theorem atZ_mem {xs : List Int} {k : Int} : atZ xs k ∈ xs ∨ atZ xs k = 0 := by
  unfold atZ
  by_cases e : k.toNat < xs.length
  · exact .inl (by rw [List.getD_eq_getElem?_getD, List.getElem?_eq_getElem e]; exact List.getElem_mem e)
  · exact .inr (by rw [List.getD_eq_getElem?_getD, List.getElem?_eq_none (by omega)]; rfl)
theorem ixD_str {s : List Nat} {i : Int} {c : Nat} (h : Hst) (e : atI s i = some c) : ixD (.str s) (.int i) h = .ok (.str [c]) h := by simp [ixD, e]
theorem ixD_lst {n : Nat} {s : List D} {i : Int} {d : D} {h : Hst} (e : h[n]? = some (.lst s)) (e2 : atI s i = some d) : ixD (.ref n) (.int i) h = .ok d h := by simp [ixD, e, e2]
theorem ixD_tup {s : List D} {i : Int} {d : D} (h : Hst) (e : atI s i = some d) : ixD (.tup s) (.int i) h = .ok d h := by simp [ixD, e]
theorem tyD_lst {n : Nat} {s : List D} {h : Hst} (e : h[n]? = some (.lst s)) : tyD (.ref n) h = some .list := by simp [tyD, e]
@[simp] theorem listC_ref {n : Nat} {s : List D} {h : Hst} (e : h[n]? = some (.lst s)) : listC [.ref n] h = .ok (.ref h.length) (h ++ [.lst s]) := by simp [listC, e]
@[simp] theorem listC_sl (s : List D) (h : Hst) : listC [.sl s] h = .ok (.ref h.length) (h ++ [.lst s]) := (rfl)
@[simp] theorem listC_tup (s : List D) (h : Hst) : listC [.tup s] h = .ok (.ref h.length) (h ++ [.lst s]) := (rfl)
@[simp] theorem tupC_ref {n : Nat} {s : List D} {h : Hst} (e : h[n]? = some (.lst s)) : tupC [.ref n] h = .ok (.tup s) h := by simp [tupC, e]
theorem appendM_ref {n : Nat} {l : List D} {h : Hst} (d : D) (e : h[n]? = some (.lst l)) (hl : l.length < 16777216) : appendM (.ref n) [d] h = .ok .non (h.set n (.lst (l ++ [d]))) := by
  unfold appendM
  dsimp only
  rw [e]
  exact if_pos hl
theorem addD_ref {a b : Nat} {xs ys : List D} {h : Hst} (ha : h[a]? = some (.lst xs)) (hb : h[b]? = some (.lst ys)) (hl : xs.length + ys.length ≤ 16777216) : addD (.ref a) (.ref b) h = .ok (.ref h.length) (h ++ [.lst (xs ++ ys)]) := by
  unfold addD
  dsimp only
  rw [ha, hb]
  exact if_pos hl
@[simp] theorem iterD_ref {n : Nat} {s : List D} {h : Hst} (e : h[n]? = some (.lst s)) : iterD (.ref n) h = .ok (s, .some (n, s)) h := by simp [iterD, e]
@[simp] theorem iterD_sl (s : List D) (h : Hst) : iterD (.sl s) h = .ok (s, .none) h := (rfl)
@[simp] theorem iterD_tup (s : List D) (h : Hst) : iterD (.tup s) h = .ok (s, .none) h := (rfl)
@[simp] theorem iterD_str (s : List Nat) (h : Hst) : iterD (.str s) h = .ok (signs s, .none) h := (rfl)
theorem str_list : ∀ l : List D, (∀ d ∈ l, ∃ s, d = .str s) → ∃ ss : List (List Nat), l = ss.map .str
  | [], _ => ⟨[], rfl⟩
  | d :: l, h => by
    obtain ⟨s, rfl⟩ := h d (by simp)
    obtain ⟨ss, rfl⟩ := str_list l fun d hd => h d (by simp [hd])
    exact ⟨s :: ss, rfl⟩
end Mi

namespace Mi
open PySem PySem.Spec PyProof.Rows L2

/-! ### terms: names, binds, uses -/
inductive Tm where
  | nm (s : List Nat) | bd (s : List Nat) (b : Tm) | ap (f a : Tm)
abbrev sName : List Nat := [110, 97, 109, 101]
abbrev sBind : List Nat := [98, 105, 110, 100]
abbrev sApply : List Nat := [97, 112, 112, 108, 121]
def Tm.d : Tm → D
  | .nm s => .tup [.str sName, .str s]
  | .bd s b => .tup [.str sBind, .str s, b.d]
  | .ap f a => .tup [.str sApply, f.d, a.d]
def Tm.kids : Tm → List Tm
  | .nm _ => []
  | .bd _ b => [b]
  | .ap f a => [f, a]
/-- the parts in reading order -/
def Tm.sub : Tm → List Tm
  | .nm s => [.nm s]
  | .bd s b => .bd s b :: b.sub
  | .ap f a => .ap f a :: (f.sub ++ a.sub)
def Tm.high : Tm → Nat
  | .nm _ => 1
  | .bd _ b => b.high + 1
  | .ap f a => max f.high a.high + 1
theorem Tm.sub_kids (t : Tm) : t.sub = t :: t.kids.flatMap Tm.sub := by cases t <;> simp [Tm.sub, Tm.kids]
theorem Tm.noRef : ∀ t : Tm, t.d.noRef = true
  | .nm s => rfl
  | .bd s b => by simp [Tm.d, D.noRef, D.noRefs, Tm.noRef b]
  | .ap f a => by simp [Tm.d, D.noRef, D.noRefs, Tm.noRef f, Tm.noRef a]
theorem noRefs_tm : ∀ ts : List Tm, D.noRefs (ts.map Tm.d) = true
  | [] => rfl
  | t :: ts => by simp [D.noRefs, t.noRef, noRefs_tm ts]
def Tm.head : Tm → List Nat
  | .nm _ => sName | .bd _ _ => sBind | .ap _ _ => sApply
@[simp] theorem ixT0 (a : D) (l : List D) (h : Hst) : ixD (.tup (a :: l)) (.int 0) h = .ok a h := by
  have := atI_nat (a :: l) 0
  exact ixD_tup h (by simpa using this)
@[simp] theorem ixT1 (a b : D) (l : List D) (h : Hst) : ixD (.tup (a :: b :: l)) (.int 1) h = .ok b h := by
  have := atI_nat (a :: b :: l) 1
  exact ixD_tup h (by simpa using this)
@[simp] theorem ixT2 (a b c : D) (l : List D) (h : Hst) : ixD (.tup (a :: b :: c :: l)) (.int 2) h = .ok c h := by
  have := atI_nat (a :: b :: c :: l) 2
  exact ixD_tup h (by simpa using this)
@[simp] theorem ix_head (t : Tm) (h : Hst) : ixD t.d (.int 0) h = .ok (.str t.head) h := by cases t <;> simp [Tm.d, Tm.head]
theorem extendM_ref {n k : Nat} {xs ys : List D} {h : Hst} (e : h[n]? = some (.lst xs)) (e2 : h[k]? = some (.lst ys)) (hl : xs.length + ys.length ≤ 16777216) : extendM (.ref n) [.ref k] h = .ok .non (h.set n (.lst (xs ++ ys))) := by
  unfold extendM
  dsimp only
  rw [e, e2]
  exact if_pos hl
theorem revD_ref {n : Nat} {xs : List D} {h : Hst} (e : h[n]? = some (.lst xs)) : revD (.ref n) h = .ok (.ref h.length) (h ++ [.lst xs.reverse]) := by simp [revD, e]
theorem popM_last {n : Nat} {xs : List D} {x : D} {h : Hst} (e : h[n]? = some (.lst (xs ++ [x]))) : popM (.ref n) [] h = .ok x (h.set n (.lst xs)) := by
  unfold popM
  dsimp only
  rw [e]
  simp
theorem truD_ref {n : Nat} {xs : List D} {h : Hst} (e : h[n]? = some (.lst xs)) : truD (.ref n) h = .ok (!xs.isEmpty) h := by simp [truD, e]
/-- a walk that picks and maps -/
theorem lcL_filt {α : Type} (dd : α → D) (p : α → Bool) (u : α → D) {chk : Chk} {g : Tg} {t : EvT} {f : Ev} {en : En} {h : Hst} (hk : chk.ok h) : ∀ (xs : List α) (acc : List D), acc.length + xs.length ≤ 16777216 →
    (∀ x ∈ xs, ∃ en1, g (dd x) en = some en1 ∧ t en1 h = .ok (p x) h ∧ (p x = true → f en1 h = .ok (u x) h)) → lcL chk g t f en (xs.map dd) acc h = .ok (acc ++ (xs.filter p).map u) h
  | [], acc, _, _ => by
    rw [List.map_nil]
    unfold lcL
    rw [if_pos hk]; simp
  | x :: xs, acc, hl, hs => by
    obtain ⟨en1, e1, e2, e3⟩ := hs x List.mem_cons_self
    have hl2 : acc.length + (xs.length + 1) ≤ 16777216 := by simpa using hl
    rw [List.map_cons]
    unfold lcL
    rw [if_pos hk, e1]
    dsimp only
    rw [e2]
    cases hp : p x with
    | false =>
      dsimp only
      rw [lcL_filt dd p u hk xs acc (by omega) fun y hy => hs y (List.mem_cons_of_mem _ hy), List.filter_cons_of_neg (by rw [hp]; simp)]
    | true =>
      dsimp only
      rw [e3 hp]
      dsimp only
      rw [if_pos (by omega), lcL_filt dd p u hk xs (acc ++ [u x]) (by simp; omega) fun y hy => hs y (List.mem_cons_of_mem _ hy), List.filter_cons_of_pos hp]
      simp
theorem scL_filt {α : Type} (dd : α → D) (p : α → Bool) (u : α → D) {chk : Chk} {g : Tg} {t : EvT} {f : Ev} {en : En} {h : Hst} (hk : chk.ok h) : ∀ (xs : List α) (acc : List D), acc.length + xs.length ≤ 4000 →
    (∀ x ∈ xs, ∃ en1, g (dd x) en = some en1 ∧ t en1 h = .ok (p x) h ∧ (p x = true → f en1 h = .ok (u x) h ∧ (keyD (u x)).isSome = true)) → scL chk g t f en (xs.map dd) acc h = .ok (((xs.filter p).map u).foldl addK acc) h
  | [], acc, _, _ => by
    rw [List.map_nil]
    unfold scL
    rw [if_pos hk]; simp
  | x :: xs, acc, hl, hs => by
    obtain ⟨en1, e1, e2, e3⟩ := hs x List.mem_cons_self
    have hl2 : acc.length + (xs.length + 1) ≤ 4000 := by simpa using hl
    rw [List.map_cons]
    unfold scL
    rw [if_pos hk, e1]
    dsimp only
    rw [e2]
    cases hp : p x with
    | false =>
      dsimp only
      rw [scL_filt dd p u hk xs acc (by omega) fun y hy => hs y (List.mem_cons_of_mem _ hy), List.filter_cons_of_neg (by rw [hp]; simp)]
    | true =>
      dsimp only
      rw [(e3 hp).1]
      dsimp only
      rw [if_pos ⟨by omega, (e3 hp).2⟩, scL_filt dd p u hk xs (addK acc (u x)) (by unfold addK; split <;> (try rw [List.length_append, List.length_singleton]) <;> omega) fun y hy => hs y (List.mem_cons_of_mem _ hy), List.filter_cons_of_pos hp]
      simp
theorem mem_addK {d x : D} : ∀ {l acc : List D}, x ∈ l.foldl addK acc ↔ x ∈ acc ∨ x ∈ l
  | [], acc => by simp
  | y :: l, acc => by
    rw [List.foldl_cons, mem_addK (d := d)]
    unfold addK
    split
    · rename_i hy
      constructor
      · rintro (q | q)
        · exact .inl q
        · exact .inr (List.mem_cons_of_mem _ q)
      · rintro (q | q)
        · exact .inl q
        · rcases List.mem_cons.mp q with q | q
          · subst q; exact .inl hy
          · exact .inr q
    · rw [List.mem_append, List.mem_singleton, List.mem_cons, or_assoc]
theorem Tm.sub_pos (t : Tm) : 0 < t.sub.length := by rw [t.sub_kids]; simp
theorem len_flat : ∀ W : List Tm, W.length ≤ (W.flatMap Tm.sub).length
  | [] => by simp
  | q :: W => by
    have a := q.sub_pos
    have b := len_flat W
    simp only [List.flatMap_cons, List.length_append, List.length_cons]
    omega
/-! ### the program's functions of terms -/
def B_below : Sm :=
    sSeq (sIf (tV (vB eqD (vB ixD (vVar 0) (vC (.int 0))) (vC (.str [98, 105, 110, 100])))) (sRet (vLst (aCons (vB ixD (vVar 0) (vC (.int 2))) (aNil)))) (sNil)) <|
    sSeq (sIf (tV (vB eqD (vB ixD (vVar 0) (vC (.int 0))) (vC (.str [97, 112, 112, 108, 121])))) (sRet (vLst (aCons (vB ixD (vVar 0) (vC (.int 1))) (aCons (vB ixD (vVar 0) (vC (.int 2))) (aNil))))) (sNil)) <|
    sRet (vLst (aNil))
theorem below_run (t : Tm) (h : Hst) : runF 1 B_below [t.d] h = .ok (.ref h.length) (h ++ [.lst (t.kids.map Tm.d)]) := by
  unfold runF B_below
  cases t with
  | nm s => simp [Tm.d, Tm.kids]; exact finish_new h (.lst []) [] rfl
  | bd s b => simp [Tm.d, Tm.kids]; exact finish_new h (.lst _) [] (noRefs_tm [b])
  | ap f a => simp [Tm.d, Tm.kids]; exact finish_new h (.lst _) [] (noRefs_tm [f, a])
def B_parts (cb : List D → Hst → Res D) (g : Nat) : Sm :=
    sSeq (sSet 1 (vLst (aNil))) <|
    sSeq (sSet 2 (vLst (aCons (vVar 0) (aNil)))) <|
    sSeq (whileL (tTru (vVar 2)) (sSeq (sSet 3 (vM .list popM (vVar 2) (aNil))) <|
    sSeq (sExpr (vM .list appendM (vVar 1) (aCons (vVar 3) (aNil)))) <|
    sExpr (vM .list extendM (vVar 2) (aCons (vU revD (vF 1 (cb) (aCons (vVar 3) (aNil)))) (aNil)))) g) <|
    sRet (vVar 1)
theorem parts_run (cb : List D → Hst → Res D) (hb : ∀ (t : Tm) (h : Hst), cb [t.d] h = .ok (.ref h.length) (h ++ [.lst (t.kids.map Tm.d)])) (g : Nat) (t : Tm) (hg : t.sub.length < g) (hl : t.sub.length ≤ 1000000) (h : Hst) :
    runF 4 (B_parts cb g) [t.d] h = .ok (.ref h.length) (h ++ [.lst (t.sub.map Tm.d)]) := by
  unfold runF B_parts
  obtain ⟨en', h', e', x, F, W, G, h1, h2, h3, h4⟩ := whileL_run (t := tTru (vVar 2)) (b := (sSeq (sSet 3 (vM .list popM (vVar 2) (aNil))) <|
    sSeq (sExpr (vM .list appendM (vVar 1) (aCons (vVar 3) (aNil)))) <|
    sExpr (vM .list extendM (vVar 2) (aCons (vU revD (vF 1 (cb) (aCons (vVar 3) (aNil)))) (aNil))))) t.sub.length g
    (fun i en h' => ∃ (x : Option D) (F W : List Tm) (G : Hst), en = [some t.d, some (.ref h.length), some (.ref (h.length + 1)), x] ∧ h' = h ++ (.lst (F.map Tm.d) :: .lst ((W.map Tm.d).reverse) :: G) ∧ F.length = i ∧ F ++ W.flatMap Tm.sub = t.sub)
    [some t.d, some (.ref h.length), some (.ref (h.length + 1)), none] (h ++ [.lst [], .lst [t.d]]) hg ⟨none, [], [t], [], rfl, by simp, rfl, by simp⟩
    (fun i en h' hi ⟨x, F, W, G, h1, h2, h3, h4⟩ => by
      subst h1 h2
      cases W with
      | nil => simp at h4; rw [← h4] at hi; omega
      | cons p W =>
        have hsum : F.length + (p.sub.length + (W.flatMap Tm.sub).length) = t.sub.length := by rw [← h4]; simp
        have hW := len_flat W
        have hk : p.kids.length ≤ 2 := by cases p <;> simp [Tm.kids]
        have eW : ((p :: W).map Tm.d).reverse = (W.map Tm.d).reverse ++ [p.d] := by simp
        rw [eW]
        generalize hFD : F.map Tm.d = FD
        generalize hWD : (W.map Tm.d).reverse = WD
        have lF : FD.length = F.length := by rw [← hFD]; simp
        have lW : WD.length = W.length := by rw [← hWD]; simp
        have e1 : (h ++ (O.lst FD :: .lst (WD ++ [p.d]) :: G))[h.length + 1]? = some (.lst (WD ++ [p.d])) := by rw [get_app2]; rfl
        have e2 : (h ++ (O.lst FD :: .lst WD :: G))[h.length]? = some (.lst FD) := by rw [get_app]; rfl
        have e3 : ∀ l : Hst, (h ++ (O.lst (FD ++ [p.d]) :: .lst WD :: l))[h.length + 1]? = some (.lst WD) := fun l => by rw [get_app2]; rfl
        have e4 : (h ++ (O.lst (FD ++ [p.d]) :: .lst WD :: (G ++ [.lst (p.kids.map Tm.d)])))[h.length + (G.length + 1 + 1)]? = some (.lst (p.kids.map Tm.d)) := by
          rw [get_app2, List.getElem?_cons_succ, List.getElem?_cons_succ, get_app]; rfl
        have e5 : (h ++ (O.lst (FD ++ [p.d]) :: .lst WD :: (G ++ [.lst (p.kids.map Tm.d), .lst ((p.kids.map Tm.d).reverse)])))[h.length + (G.length + 1 + 1 + 1)]? = some (.lst ((p.kids.map Tm.d).reverse)) := by
          rw [get_app2, List.getElem?_cons_succ, List.getElem?_cons_succ, get_app2]; rfl
        refine ⟨by simp [truD_ref e1], [some t.d, some (.ref h.length), some (.ref (h.length + 1)), some p.d], h ++ (O.lst (FD ++ [p.d]) :: .lst (WD ++ (p.kids.map Tm.d).reverse) :: (G ++ [.lst (p.kids.map Tm.d), .lst ((p.kids.map Tm.d).reverse)])), ?_, some p.d, F ++ [p], p.kids ++ W, _, rfl, by rw [← hFD, ← hWD]; simp; rfl, by simp [h3], by rw [← h4, List.flatMap_cons, Tm.sub_kids p]; simp⟩
        simp [tyD_lst e1, popM_last e1]
        simp [tyD_lst e2, appendM_ref _ e2 (by omega)]
        simp [tyD_lst (e3 _), hb, revD_ref e4]
        rw [extendM_ref (e3 _) e5 (by simp; omega)]
        simp)
    (fun en h' ⟨x, F, W, G, h1, h2, h3, h4⟩ => by
      subst h1 h2
      cases W with
      | nil => rw [tTru_ap]; simp; rw [truD_ref (xs := []) (by rw [get_app2]; rfl)]; rfl
      | cons p W =>
        have : F.length + (p.sub.length + (W.flatMap Tm.sub).length) = t.sub.length := by rw [← h4]; simp
        have : 0 < p.sub.length := by rw [Tm.sub_kids]; simp
        omega)
  subst h1 h2
  cases W with
  | cons p W =>
    have : F.length + (p.sub.length + (W.flatMap Tm.sub).length) = t.sub.length := by rw [← h4]; simp
    have : 0 < p.sub.length := by rw [Tm.sub_kids]; simp
    omega
  | nil =>
    have h4 : F = t.sub := by simpa using h4
    subst h4
    simp [e']
    exact finish_new h (.lst _) _ (noRefs_tm _)
end Mi

namespace Mi
open PySem PySem.Spec PyProof.Rows L2

/-! ### names of a term -/
def Tm.lab : Tm → List Nat
  | .nm s => s | .bd s _ => s | .ap _ _ => []
def isNm (t : Tm) : Bool := decide (t.head = sName)
def isBd (t : Tm) : Bool := decide (t.head = sBind)
theorem ix_lab {t : Tm} (e : t.head = sName ∨ t.head = sBind) (h : Hst) : ixD t.d (.int 1) h = .ok (.str t.lab) h := by
  cases t with
  | nm s => simp [Tm.d, Tm.lab]
  | bd s b => simp [Tm.d, Tm.lab]
  | ap f a => simp [Tm.head] at e
def bnds (t : Tm) : List (List Nat) := (t.sub.filter isBd).map Tm.lab
/-- the free names, as the program tells them -/
def frees (t : Tm) : List (List Nat) := (t.sub.filter fun p => isNm p && !decide (p.lab ∈ bnds t)).map Tm.lab
def bset (t : Tm) : List D := ((t.sub.filter isBd).map fun p => D.str p.lab).foldl addK []
theorem mem_bset {t : Tm} {s : List Nat} : D.str s ∈ bset t ↔ s ∈ bnds t := by
  unfold bset bnds
  rw [mem_addK (d := .non)]
  simp only [List.not_mem_nil, false_or, List.mem_map, D.str.injEq]
theorem nin_set {n : Nat} {ks : List D} {h : Hst} (s : List Nat) (e : h[n]? = some (.set ks)) : ninD (.str s) (.ref n) h = .ok (.bl (!decide (D.str s ∈ ks))) h := by
  unfold ninD inB
  dsimp only
  rw [e]
  rfl
def B_free (cp : List D → Hst → Res D) : Sm :=
    sSeq (sSet 1 (vF 1 (cp) (aCons (vVar 0) (aNil)))) <|
    sSeq (sSet 2 (vSc [3] (iSeq (vVar 1)) (gNm 3) (tV (vB eqD (vB ixD (vVar 3) (vC (.int 0))) (vC (.str [98, 105, 110, 100])))) (vB ixD (vVar 3) (vC (.int 1))))) <|
    sRet (vLc [3] (iSeq (vVar 1)) (gNm 3) (tAndE (tV (vB eqD (vB ixD (vVar 3) (vC (.int 0))) (vC (.str [110, 97, 109, 101])))) (tV (vB ninD (vB ixD (vVar 3) (vC (.int 1))) (vVar 2)))) (vB ixD (vVar 3) (vC (.int 1))))
theorem free_run (cp : List D → Hst → Res D) (t : Tm) (h : Hst) (hp : cp [t.d] h = .ok (.ref h.length) (h ++ [.lst (t.sub.map Tm.d)])) (hl : t.sub.length ≤ 4000) :
    runF 4 (B_free cp) [t.d] h = .ok (.ref h.length) (h ++ [.lst ((frees t).map .str)]) := by
  unfold runF B_free
  have a := scL_filt (chk := .some (h.length, t.sub.map Tm.d)) (g := gNm 3) (t := (tV (vB eqD (vB ixD (vVar 3) (vC (.int 0))) (vC (.str [98, 105, 110, 100]))))) (f := (vB ixD (vVar 3) (vC (.int 1)))) (en := [some t.d, some (.ref h.length), none, none]) (h := h ++ [.lst (t.sub.map Tm.d)])
    Tm.d isBd (fun p => .str p.lab) (by rw [Chk.ok, get_app]; rfl) t.sub [] (by simpa using hl) (fun x hx => ⟨_, rfl, by simp [isBd], fun q => ⟨by simp [ix_lab (.inr (of_decide_eq_true q))], rfl⟩⟩)
  have b := lcL_filt (chk := .some (h.length, t.sub.map Tm.d)) (g := gNm 3) (t := (tAndE (tV (vB eqD (vB ixD (vVar 3) (vC (.int 0))) (vC (.str [110, 97, 109, 101])))) (tV (vB ninD (vB ixD (vVar 3) (vC (.int 1))) (vVar 2))))) (f := (vB ixD (vVar 3) (vC (.int 1)))) (en := [some t.d, some (.ref h.length), some (.ref (h.length + 1)), none]) (h := h ++ [.lst (t.sub.map Tm.d), .set (bset t)])
    Tm.d (fun p => isNm p && !decide (p.lab ∈ bnds t)) (fun p => .str p.lab) (by rw [Chk.ok, get_app]; rfl) t.sub [] (by simp; omega) (fun x hx => by
      refine ⟨_, rfl, ?_, fun q => ?_⟩
      · by_cases q : x.head = sName
        · have e5 : (h ++ [O.lst (t.sub.map Tm.d), .set (bset t)])[h.length + 1]? = some (.set (bset t)) := by rw [get_app2]; rfl
          simp [q, isNm, ix_lab (.inl q), nin_set _ e5, mem_bset]
        · simp [q, isNm]
      · rw [Bool.and_eq_true] at q
        simp [ix_lab (.inl (of_decide_eq_true q.1))])
  have e1 : (h ++ [O.lst (t.sub.map Tm.d)])[h.length]? = some (.lst (t.sub.map Tm.d)) := by rw [get_app]; rfl
  have e2 : (h ++ [O.lst (t.sub.map Tm.d), .set (bset t)])[h.length]? = some (.lst (t.sub.map Tm.d)) := by rw [get_app]; rfl
  simp only [List.nil_append] at a b
  have a : scL (.some (h.length, t.sub.map Tm.d)) (gNm 3) (tV (vB eqD (vB ixD (vVar 3) (vC (.int 0))) (vC (.str [98, 105, 110, 100])))) (vB ixD (vVar 3) (vC (.int 1))) [some t.d, some (.ref h.length), none, none] (t.sub.map Tm.d) [] (h ++ [.lst (t.sub.map Tm.d)]) = .ok (bset t) (h ++ [.lst (t.sub.map Tm.d)]) := a
  have fe : (frees t).map D.str = (t.sub.filter fun p => isNm p && !decide (p.lab ∈ bnds t)).map fun p => .str p.lab := by unfold frees; rw [List.map_map]; rfl
  rw [← fe] at b
  simp [hp, vSc, iterD_ref e1, wipeE]
  rw [a]
  simp [iterD_ref e2, wipeE]
  rw [b]
  simp
  exact finish_newk h [_, _, .lst _] 2 _ rfl (noRefs_str _)
def B_size (cp : List D → Hst → Res D) : Sm :=
    sRet (vCall lenD (aCons (vLc [1] (iSeq (vF 1 (cp) (aCons (vVar 0) (aNil)))) (gNm 1) (tV (vB neD (vB ixD (vVar 1) (vC (.int 0))) (vC (.str [110, 97, 109, 101])))) (vVar 1)) (aNil)))
def Tm.nodes : Tm → Nat
  | .nm _ => 0
  | .bd _ b => 1 + b.nodes
  | .ap f a => 1 + f.nodes + a.nodes
theorem nodes_sub : ∀ t : Tm, (t.sub.filter fun p => !isNm p).length = t.nodes
  | .nm s => rfl
  | .bd s b => by
    have := nodes_sub b
    simp [Tm.sub, Tm.nodes, isNm, Tm.head] at this ⊢
    omega
  | .ap f a => by
    have h1 := nodes_sub f
    have h2 := nodes_sub a
    simp [Tm.sub, Tm.nodes, isNm, Tm.head] at h1 h2 ⊢
    omega
theorem size_run (cp : List D → Hst → Res D) (t : Tm) (h : Hst) (hp : cp [t.d] h = .ok (.ref h.length) (h ++ [.lst (t.sub.map Tm.d)])) (hl : t.sub.length ≤ 4000) :
    runF 2 (B_size cp) [t.d] h = .ok (.int t.nodes) h := by
  unfold runF B_size
  have b := lcL_filt (chk := .some (h.length, t.sub.map Tm.d)) (g := gNm 1) (t := (tV (vB neD (vB ixD (vVar 1) (vC (.int 0))) (vC (.str [110, 97, 109, 101]))))) (f := vVar 1) (en := [some t.d, none]) (h := h ++ [.lst (t.sub.map Tm.d)])
    Tm.d (fun p => !isNm p) Tm.d (by rw [Chk.ok, get_app]; rfl) t.sub [] (by simp; omega) (fun x hx => ⟨_, rfl, by simp [isNm], fun q => by simp⟩)
  have e1 : (h ++ [O.lst (t.sub.map Tm.d)])[h.length]? = some (.lst (t.sub.map Tm.d)) := by rw [get_app]; rfl
  simp only [List.nil_append] at b
  have e2 : (h ++ [O.lst (t.sub.map Tm.d), .lst ((t.sub.filter fun p => !isNm p).map Tm.d)])[h.length + 1]? = some (.lst ((t.sub.filter fun p => !isNm p).map Tm.d)) := by rw [get_app2]; rfl
  simp [hp, iterD_ref e1, wipeE]
  rw [b]
  simp [lenD_lst e2, nodes_sub]
  exact finish_drop _ _ _ rfl
def B_nodes (cn : List D → Hst → Res D) : Sm :=
    sSeq (sIf (tV (vB eqD (vB ixD (vVar 0) (vC (.int 0))) (vC (.str [110, 97, 109, 101])))) (sRet (vC (.int 0))) (sNil)) <|
    sSeq (sIf (tV (vB eqD (vB ixD (vVar 0) (vC (.int 0))) (vC (.str [98, 105, 110, 100])))) (sRet (vB addD (vC (.int 1)) (vF 1 (cn) (aCons (vB ixD (vVar 0) (vC (.int 2))) (aNil))))) (sNil)) <|
    sRet (vB addD (vB addD (vC (.int 1)) (vF 1 (cn) (aCons (vB ixD (vVar 0) (vC (.int 1))) (aNil)))) (vF 1 (cn) (aCons (vB ixD (vVar 0) (vC (.int 2))) (aNil))))
theorem nodes_run (cn : List D → Hst → Res D) (t : Tm) (h : Hst) (hc : ∀ k ∈ t.kids, cn [k.d] h = .ok (.int k.nodes) h) : runF 1 (B_nodes cn) [t.d] h = .ok (.int t.nodes) h := by
  unfold runF B_nodes
  cases t with
  | nm s => simp [Tm.d, Tm.nodes]
  | bd s b =>
    have := hc b (by simp [Tm.kids])
    simp [Tm.d, Tm.nodes, this]
  | ap f a =>
    have h1 := hc f (by simp [Tm.kids])
    have h2 := hc a (by simp [Tm.kids])
    simp [Tm.d, Tm.nodes, h1, h2]
def B_lparts (cl : List D → Hst → Res D) : Sm :=
    sSeq (sIf (tV (vB eqD (vB ixD (vVar 0) (vC (.int 0))) (vC (.str [110, 97, 109, 101])))) (sRet (vLst (aCons (vVar 0) (aNil)))) (sNil)) <|
    sSeq (sIf (tV (vB eqD (vB ixD (vVar 0) (vC (.int 0))) (vC (.str [98, 105, 110, 100])))) (sRet (vB addD (vLst (aCons (vVar 0) (aNil))) (vF 1 (cl) (aCons (vB ixD (vVar 0) (vC (.int 2))) (aNil))))) (sNil)) <|
    sRet (vB addD (vB addD (vLst (aCons (vVar 0) (aNil))) (vF 1 (cl) (aCons (vB ixD (vVar 0) (vC (.int 1))) (aNil)))) (vF 1 (cl) (aCons (vB ixD (vVar 0) (vC (.int 2))) (aNil))))
theorem lparts_run (cl : List D → Hst → Res D) (t : Tm) (h : Hst) (hl : t.sub.length ≤ 1000000) (hc : ∀ k ∈ t.kids, ∀ h, cl [k.d] h = .ok (.ref h.length) (h ++ [.lst (k.sub.map Tm.d)])) :
    runF 1 (B_lparts cl) [t.d] h = .ok (.ref h.length) (h ++ [.lst (t.sub.map Tm.d)]) := by
  unfold runF B_lparts
  cases t with
  | nm s =>
    simp [Tm.d]
    exact finish_new h (.lst _) [] (noRefs_tm [.nm s])
  | bd s b =>
    have h1 := hc b (by simp [Tm.kids])
    simp [Tm.sub] at hl
    simp [Tm.d, h1]
    rw [addD_ref (xs := [Tm.d (.bd s b)]) (ys := b.sub.map Tm.d) (by rw [get_app]; rfl) (by rw [get_app2]; rfl) (by simp; omega)]
    simp
    exact finish_newk h [_, _, .lst _] 2 _ rfl (noRefs_tm (.bd s b :: b.sub))
  | ap f a =>
    have h1 := hc f (by simp [Tm.kids])
    have h2 := hc a (by simp [Tm.kids])
    simp [Tm.sub] at hl
    simp [Tm.d, h1, h2]
    rw [addD_ref (xs := [Tm.d (.ap f a)]) (ys := f.sub.map Tm.d) (by rw [get_app]; rfl) (by rw [get_app2]; rfl) (by simp; omega)]
    simp [h2]
    rw [addD_ref (xs := Tm.d (.ap f a) :: f.sub.map Tm.d) (ys := a.sub.map Tm.d) (by rw [get_app2]; rfl) (by rw [get_app2]; rfl) (by simp; omega)]
    simp
    have e : (Tm.ap f a).sub.map Tm.d = (f.ap a).d :: (f.sub.map Tm.d ++ a.sub.map Tm.d) := by simp [Tm.sub]
    have n := noRefs_tm (Tm.ap f a).sub
    rw [e] at n ⊢
    exact finish_newk h [_, _, _, _, .lst _] 4 _ rfl n
end Mi

namespace Mi
open PySem PySem.Spec PyProof.Rows L2

/-! ### open names, by recursion -/
def fr : Tm → List (List Nat)
  | .nm s => [s]
  | .bd s b => (fr b).filter fun x => !decide (x = s)
  | .ap f a => fr f ++ fr a
theorem fr_len : ∀ t : Tm, (fr t).length ≤ t.sub.length
  | .nm s => by simp [fr, Tm.sub]
  | .bd s b => by
    have a := fr_len b
    have c := List.length_filter_le (fun x => !decide (x = s)) (fr b)
    simp only [fr, Tm.sub, List.length_cons]
    omega
  | .ap f a => by
    have h1 := fr_len f
    have h2 := fr_len a
    simp only [fr, Tm.sub, List.length_cons, List.length_append]
    omega
/-- all but one object stand -/
def Gr (n : Nat) (h h' : Hst) : Prop := h.length ≤ h'.length ∧ ∀ i o, i ≠ n → h[i]? = some o → h'[i]? = some o
theorem Gr.refl (n : Nat) (h : Hst) : Gr n h h := ⟨Nat.le_refl _, fun _ _ _ e => e⟩
theorem Gr.trans {n : Nat} {a b c : Hst} (x : Gr n a b) (y : Gr n b c) : Gr n a c := ⟨Nat.le_trans x.1 y.1, fun i o hi e => y.2 i o hi (x.2 i o hi e)⟩
theorem Gr.app (n : Nat) (h l : Hst) : Gr n h (h ++ l) := ⟨by simp, fun i o _ e => get_old e⟩
theorem Gr.set (n : Nat) (h : Hst) (o : O) : Gr n h (h.set n o) := ⟨by simp, fun i u hi e => by rw [List.getElem?_set_ne (fun z => hi z.symm)]; exact e⟩
theorem lt_get {h : Hst} {n : Nat} {o : O} (e : h[n]? = some o) : n < h.length := (List.getElem?_eq_some_iff.mp e).1
theorem finish_dirty {h h' : Hst} {n : Nat} {o o' : O} (v : D) (e : h[n]? = some o) (e' : h'[n]? = some o') (ne : o ≠ o') : finish h v h' = .ok v h' := by
  unfold finish
  split
  · rfl
  · rw [if_neg]
    intro z
    have := congrArg (fun l : Hst => l[n]?) z
    simp only [List.getElem?_take] at this
    rw [if_pos (lt_get e), e, e'] at this
    exact ne (Option.some.inj this).symm
/-- what a def of this kind does -/
def OpenS (F : List D → Hst → Res D) (t : Tm) : Prop := ∀ (h : Hst) (n : Nat) (xs : List D), h[n]? = some (.lst xs) → xs.length + t.sub.length ≤ 1000000 →
  ∃ (h' : Hst) (r0 : Nat) (rs : List Nat), F [t.d, .ref n] h = .ok (.ref r0) h' ∧ h'[n]? = some (.lst (xs ++ rs.map .ref)) ∧ Gr n h h' ∧ rs.length = t.sub.length ∧ rs[0]? = some r0 ∧
    ∀ (i : Nat) (p : Tm), t.sub[i]? = some p → ∃ r, rs[i]? = some r ∧ h.length ≤ r ∧ h'[r]? = some (.lst ((fr p).map .str))
theorem setD_ref {n : Nat} {xs : List D} {h : Hst} {i : Nat} (v : D) (e : h[n]? = some (.lst xs)) (hi : i < xs.length) : setD (.ref n) (.int i) v h = some (h.set n (.lst (xs.set i v))) := by
  unfold setD
  dsimp only
  rw [e]
  dsimp only
  have : ixN xs.length (i : Int) = some i := by
    unfold ixN
    rw [if_pos (by omega), if_pos (by omega)]
    rfl
  rw [this]
theorem eq_lst_app {xs : List D} {r : Nat} {l : List D} : O.lst xs ≠ O.lst (xs ++ D.ref r :: l) := by
  intro z
  have := congrArg (fun o : O => match o with | .lst l => l.length | _ => 0) z
  simp at this
def B_open (cl : List D → Hst → Res D) : Sm :=
    sSeq (sSet 2 (vCall lenD (aCons (vVar 1) (aNil)))) <|
    sSeq (sExpr (vM .list appendM (vVar 1) (aCons (vLst (aNil)) (aNil)))) <|
    sSeq (sIf (tV (vB eqD (vB ixD (vVar 0) (vC (.int 0))) (vC (.str [110, 97, 109, 101])))) (sSet 3 (vLst (aCons (vB ixD (vVar 0) (vC (.int 1))) (aNil)))) (sIf (tV (vB eqD (vB ixD (vVar 0) (vC (.int 0))) (vC (.str [98, 105, 110, 100])))) (sSet 3 (vLc [5] (iSeq (vF 2 (cl) (aCons (vB ixD (vVar 0) (vC (.int 2))) (aCons (vVar 1) (aNil))))) (gNm 5) (tV (vB neD (vVar 5) (vB ixD (vVar 0) (vC (.int 1))))) (vVar 5))) (sSeq (sSet 4 (vF 2 (cl) (aCons (vB ixD (vVar 0) (vC (.int 1))) (aCons (vVar 1) (aNil))))) <|
    sSet 3 (vB addD (vVar 4) (vF 2 (cl) (aCons (vB ixD (vVar 0) (vC (.int 2))) (aCons (vVar 1) (aNil)))))))) <|
    sSeq (sIx (vVar 1) (vVar 2) (vVar 3)) <|
    sRet (vVar 3)
/-- the end of such a call -/
theorem open_end {h Hk : Hst} {n : Nat} {xs : List D} {e0 : Nat} {krs : List Nat} {t : Tm} {ps : List Tm} (e : h[n]? = some (.lst xs)) (ek : Hk[n]? = some (.lst (xs ++ (D.ref e0 :: krs.map .ref)))) (gr : Gr n h Hk) (hs : t.sub = t :: ps) (hl : krs.length = ps.length)
    (hk : ∀ (i : Nat) (p : Tm), ps[i]? = some p → ∃ r, krs[i]? = some r ∧ h.length ≤ r ∧ Hk[r]? = some (.lst ((fr p).map .str))) :
    ∃ (h' : Hst) (rs : List Nat), setD (.ref n) (.int (xs.length : Nat)) (.ref Hk.length) (Hk ++ [.lst ((fr t).map .str)]) = some h' ∧ finish h (.ref Hk.length) h' = .ok (.ref Hk.length) h' ∧ h'[n]? = some (.lst (xs ++ rs.map .ref)) ∧ Gr n h h' ∧ rs.length = t.sub.length ∧ rs[0]? = some Hk.length ∧
      ∀ (i : Nat) (p : Tm), t.sub[i]? = some p → ∃ r, rs[i]? = some r ∧ h.length ≤ r ∧ h'[r]? = some (.lst ((fr p).map .str)) := by
  have hn := lt_get e
  have st : (xs ++ (D.ref e0 :: krs.map .ref)).set xs.length (.ref Hk.length) = xs ++ (Hk.length :: krs).map .ref := by
    rw [List.set_append, if_neg (Nat.lt_irrefl _), Nat.sub_self]; rfl
  have en : ((Hk ++ [O.lst ((fr t).map .str)]).set n (.lst (xs ++ (Hk.length :: krs).map .ref)))[n]? = some (.lst (xs ++ (Hk.length :: krs).map .ref)) := by
    rw [List.getElem?_set_self]
    have := gr.1
    simp; omega
  refine ⟨_, Hk.length :: krs, by rw [setD_ref _ (get_old ek) (by simp), st], finish_dirty _ e en (by simp only [List.map_cons]; exact eq_lst_app), en, (gr.trans (.app n Hk _)).trans (.set n _ _), by rw [hs]; simp [hl], rfl, fun i p hp => ?_⟩
  rw [hs] at hp
  cases i with
  | zero =>
    cases (Option.some.inj hp)
    refine ⟨_, rfl, gr.1, ?_⟩
    rw [List.getElem?_set_ne (by have := gr.1; omega), get_app]
    rfl
  | succ i =>
    obtain ⟨r, h1, h2, h3⟩ := hk i p (by simpa using hp)
    refine ⟨r, by simpa using h1, h2, ?_⟩
    rw [List.getElem?_set_ne (by omega)]
    exact get_old h3
theorem open_run (cl : List D → Hst → Res D) (t : Tm) (hc : ∀ k ∈ t.kids, OpenS cl k) : OpenS (runF 6 (B_open cl)) t := by
  intro h n xs e hl
  have hn := lt_get e
  have e1 : ∀ l : Hst, (h ++ l)[n]? = some (.lst xs) := fun l => get_old e
  -- behind the first two rows
  have q1 : (h ++ [O.lst []]).set n (.lst (xs ++ [D.ref h.length])) = h.set n (.lst (xs ++ [D.ref h.length])) ++ [.lst []] := by
    rw [List.set_append, if_pos hn]
  generalize hH : h.set n (.lst (xs ++ [D.ref h.length])) ++ [O.lst []] = H1 at q1
  have eH : H1[n]? = some (.lst (xs ++ [D.ref h.length])) := by
    rw [← hH, List.getElem?_append_left (by simpa using hn), List.getElem?_set_self hn]
  have gH : Gr n h H1 := by rw [← hH]; exact (Gr.set n h _).trans (.app n _ _)
  have hlen := t.sub_pos
  cases t with
  | nm s =>
    obtain ⟨h', rs, a1, a2, a3, a4, a5, a6, a7⟩ := open_end (t := .nm s) (ps := []) (krs := []) e eH gH rfl rfl (by simp)
    refine ⟨h', H1.length, rs, ?_, a3, a4, a5, a6, a7⟩
    unfold runF B_open
    simp [fr] at a1
    simp [lenD_lst e, tyD_lst e, appendM_ref _ (e1 _) (by omega : xs.length < 16777216), q1, Tm.head, ix_lab (t := .nm s) (.inl rfl), Tm.lab, a1, a2]
  | bd s b =>
    simp only [Tm.sub, List.length_cons] at hl
    obtain ⟨Hk, r0, krs, b1, b2, b3, b4, b5, b6⟩ := hc b (by simp [Tm.kids]) H1 n _ eH (by simp; omega)
    have eb : Hk[r0]? = some (.lst ((fr b).map .str)) := by
      obtain ⟨r, c1, _, c3⟩ := b6 0 b (by rw [b.sub_kids]; rfl)
      rw [b5] at c1
      cases c1
      exact c3
    obtain ⟨h', rs, a1, a2, a3, a4, a5, a6, a7⟩ := open_end (t := .bd s b) (ps := b.sub) (krs := krs) (Hk := Hk) (e0 := h.length) e (by rw [b2]; simp) (gH.trans b3) rfl b4 (fun i p hp => by
      obtain ⟨r, c1, c2, c3⟩ := b6 i p hp
      exact ⟨r, c1, Nat.le_trans gH.1 c2, c3⟩)
    have lc := lcL_filt (chk := .some (r0, (fr b).map .str)) (g := gNm 5) (t := (tV (vB neD (vVar 5) (vB ixD (vVar 0) (vC (.int 1)))))) (f := vVar 5) (en := [some (Tm.bd s b).d, some (.ref n), some (.int (xs.length : Nat)), none, none, none]) (h := Hk) D.str (fun x => !decide (x = s)) D.str eb (fr b) []
      (by have := fr_len b; simp; omega) (fun x hx => ⟨_, rfl, by simp [ix_lab (t := .bd s b) (.inr rfl), Tm.lab], fun q => by simp⟩)
    refine ⟨h', Hk.length, rs, ?_, a3, a4, a5, a6, a7⟩
    unfold runF B_open
    simp only [List.nil_append] at lc
    simp only [fr] at a1
    have d2 : ∀ hh, ixD (Tm.bd s b).d (.int 2) hh = .ok b.d hh := fun hh => by simp [Tm.d]
    simp [lenD_lst e, tyD_lst e, appendM_ref _ (e1 _) (by omega : xs.length < 16777216), q1, Tm.head, d2, b1, iterD_ref eb, wipeE, lc, a1, a2]
  | ap f a =>
    simp only [Tm.sub, List.length_cons, List.length_append] at hl
    obtain ⟨Hf, rf, frs, b1, b2, b3, b4, b5, b6⟩ := hc f (by simp [Tm.kids]) H1 n _ eH (by simp; omega)
    obtain ⟨Ha, ra, ars, c1, c2, c3, c4, c5, c6⟩ := hc a (by simp [Tm.kids]) Hf n _ b2 (by simp; omega)
    have nf : ∀ r, h.length ≤ r → r ≠ n := fun r hr z => by omega
    have ef : Ha[rf]? = some (.lst ((fr f).map .str)) := by
      obtain ⟨r, d1, d2, d3⟩ := b6 0 f (by rw [f.sub_kids]; rfl)
      rw [b5] at d1
      cases d1
      exact c3.2 _ _ (nf _ (Nat.le_trans gH.1 d2)) d3
    have ea : Ha[ra]? = some (.lst ((fr a).map .str)) := by
      obtain ⟨r, d1, d2, d3⟩ := c6 0 a (by rw [a.sub_kids]; rfl)
      rw [c5] at d1
      cases d1
      exact d3
    obtain ⟨h', rs, a1, a2, a3, a4, a5, a6, a7⟩ := open_end (t := .ap f a) (ps := f.sub ++ a.sub) (krs := frs ++ ars) (Hk := Ha) (e0 := h.length) e (by rw [c2]; simp) ((gH.trans b3).trans c3) rfl (by simp [b4, c4]) (fun i p hp => by
      by_cases hi : i < f.sub.length
      · rw [List.getElem?_append_left hi] at hp
        obtain ⟨r, d1, d2, d3⟩ := b6 i p hp
        exact ⟨r, by rw [List.getElem?_append_left (by omega)]; exact d1, Nat.le_trans gH.1 d2, c3.2 _ _ (nf _ (Nat.le_trans gH.1 d2)) d3⟩
      · rw [List.getElem?_append_right (by omega)] at hp
        obtain ⟨r, d1, d2, d3⟩ := c6 _ p hp
        exact ⟨r, by rw [List.getElem?_append_right (by omega), b4]; exact d1, Nat.le_trans (gH.trans b3).1 d2, d3⟩)
    refine ⟨h', Ha.length, rs, ?_, a3, a4, a5, a6, a7⟩
    unfold runF B_open
    have d1 : ∀ hh, ixD (Tm.ap f a).d (.int 1) hh = .ok f.d hh := fun hh => by simp [Tm.d]
    have d2 : ∀ hh, ixD (Tm.ap f a).d (.int 2) hh = .ok a.d hh := fun hh => by simp [Tm.d]
    have l1 := fr_len f
    have l2 := fr_len a
    have ad : addD (.ref rf) (.ref ra) Ha = .ok (.ref Ha.length) (Ha ++ [.lst ((fr (.ap f a)).map .str)]) := by rw [addD_ref ef ea (by simp; omega)]; simp [fr]
    simp [lenD_lst e, tyD_lst e, appendM_ref _ (e1 _) (by omega : xs.length < 16777216), q1, Tm.head, d1, d2, b1, c1, ad, a1, a2]
end Mi

namespace Mi
open PySem PySem.Spec PyProof.Rows L2

/-! ### alike -/
def Lk (h : Hst) : Nat → D → D → Prop
  | 0, _, _ => False
  | n + 1, x, y => (∃ b, x = .bl b ∧ y = .bl b) ∨ (∃ i, x = .int i ∧ y = .int i) ∨ (∃ s, x = .str s ∧ y = .str s) ∨
    (∃ xs ys, x = .tup xs ∧ y = .tup ys ∧ xs.length = ys.length ∧ xs.length ≤ 1000000 ∧ ∀ (i : Nat) (dx dy : D), xs[i]? = some dx → ys[i]? = some dy → Lk h n dx dy) ∨
    (∃ a b xs ys, x = .ref a ∧ y = .ref b ∧ h[a]? = some (.lst xs) ∧ h[b]? = some (.lst ys) ∧ xs.length = ys.length ∧ xs.length ≤ 1000000 ∧ ∀ (i : Nat) (dx dy : D), xs[i]? = some dx → ys[i]? = some dy → Lk h n dx dy)
theorem Lk.str (h : Hst) (n : Nat) (s : List Nat) : Lk h (n + 1) (.str s) (.str s) := Or.inr (Or.inr (Or.inl ⟨s, rfl, rfl⟩))
theorem Lk.int (h : Hst) (n : Nat) (i : Int) : Lk h (n + 1) (.int i) (.int i) := Or.inr (Or.inl ⟨i, rfl, rfl⟩)
theorem Lk.bl (h : Hst) (n : Nat) (b : Bool) : Lk h (n + 1) (.bl b) (.bl b) := Or.inl ⟨b, rfl, rfl⟩
theorem Lk.tm (h : Hst) : ∀ (t : Tm) (n : Nat), t.high ≤ n → Lk h (n + 1) t.d t.d
  | .nm s, n + 1, _ => Or.inr (Or.inr (Or.inr (Or.inl ⟨_, _, rfl, rfl, rfl, by simp, fun i dx dy e1 e2 => by
    cases (Option.some.inj (e1.symm.trans e2))
    match i, e1 with
    | 0, e1 => cases (Option.some.inj e1); exact .str _ _ _
    | 1, e1 => cases (Option.some.inj e1); exact .str _ _ _⟩)))
  | .bd s b, n + 1, hn => Or.inr (Or.inr (Or.inr (Or.inl ⟨_, _, rfl, rfl, rfl, by simp, fun i dx dy e1 e2 => by
    cases (Option.some.inj (e1.symm.trans e2))
    match i, e1 with
    | 0, e1 => cases (Option.some.inj e1); exact .str _ _ _
    | 1, e1 => cases (Option.some.inj e1); exact .str _ _ _
    | 2, e1 => cases (Option.some.inj e1); exact Lk.tm h b n (by simp only [Tm.high] at hn; omega)⟩)))
  | .ap f a, n + 1, hn => Or.inr (Or.inr (Or.inr (Or.inl ⟨_, _, rfl, rfl, rfl, by simp, fun i dx dy e1 e2 => by
    cases (Option.some.inj (e1.symm.trans e2))
    match i, e1 with
    | 0, e1 => cases (Option.some.inj e1); exact .str _ _ _
    | 1, e1 => cases (Option.some.inj e1); exact Lk.tm h f n (by simp only [Tm.high] at hn; omega)
    | 2, e1 => cases (Option.some.inj e1); exact Lk.tm h a n (by simp only [Tm.high] at hn; omega)⟩)))
  | .nm s, 0, hn => absurd hn (by simp [Tm.high])
  | .bd s b, 0, hn => absurd hn (by simp [Tm.high])
  | .ap f a, 0, hn => absurd hn (by simp [Tm.high])
theorem Lk.mapR {α : Type} {dd : α → D} {h : Hst} {a b n : Nat} {xs : List α} (ha : h[a]? = some (.lst (xs.map dd))) (hb : h[b]? = some (.lst (xs.map dd))) (hl : xs.length ≤ 1000000) (hk : ∀ x ∈ xs, Lk h n (dd x) (dd x)) : Lk h (n + 1) (.ref a) (.ref b) :=
  Or.inr (Or.inr (Or.inr (Or.inr ⟨a, b, _, _, rfl, rfl, ha, hb, rfl, by simpa using hl, fun i dx dy e1 e2 => by
    cases (Option.some.inj (e1.symm.trans e2))
    rw [List.getElem?_map] at e1
    obtain ⟨x, hx, rfl⟩ := Option.map_eq_some_iff.mp e1
    exact hk x (List.mem_of_getElem? hx)⟩)))
def B_same (cs : List D → Hst → Res D) : Sm :=
    sSeq (sIf (tTru (vIsi [.bool] (vVar 1))) (sRet (vAnd (vIsi [.bool] (vVar 0)) (vB eqD (vVar 0) (vVar 1)))) (sNil)) <|
    sSeq (sIf (tTru (vIsi [.int] (vVar 1))) (sRet (vAnd (vIsi [.int] (vVar 0)) (vAnd (vNot (vIsi [.bool] (vVar 0))) (vB eqD (vVar 0) (vVar 1))))) (sNil)) <|
    sSeq (sIf (tTru (vIsi [.str] (vVar 1))) (sRet (vAnd (vIsi [.str] (vVar 0)) (vB eqD (vVar 0) (vVar 1)))) (sNil)) <|
    sSeq (sIf (tOrE (tV (vB neD (vIsi [.tuple] (vVar 1)) (vIsi [.tuple] (vVar 0)))) (tV (vB neD (vIsi [.list] (vVar 1)) (vIsi [.list] (vVar 0))))) (sRet (vC (.bl false))) (sNil)) <|
    sSeq (sIf (tOrE (tNotE (tTru (vIsi [.tuple, .list] (vVar 0)))) (tV (vB neD (vCall lenD (aCons (vVar 0) (aNil))) (vCall lenD (aCons (vVar 1) (aNil)))))) (sRet (vC (.bl false))) (sNil)) <|
    sSeq (sFor (iRng1 (aCons (vCall lenD (aCons (vVar 1) (aNil))) (aNil))) (gNm 2) (sIf (tNotE (tTru (vF 2 (cs) (aCons (vB ixD (vVar 0) (vVar 2)) (aCons (vB ixD (vVar 1) (vVar 2)) (aNil)))))) (sRet (vC (.bl false))) (sNil))) <|
    sRet (vC (.bl true))
theorem same_loop (cs : List D → Hst → Res D) {h : Hst} {n : Nat} (hc : ∀ dx dy, Lk h n dx dy → cs [dx, dy] h = .ok (.bl true) h) {x y : D} {xs ys : List D} (hl : xs.length = ys.length)
    (hx : ∀ (i : Nat) (d : D), xs[i]? = some d → ixD x (.int (i : Nat)) h = .ok d h) (hy : ∀ (i : Nat) (d : D), ys[i]? = some d → ixD y (.int (i : Nat)) h = .ok d h) (hk : ∀ (i : Nat) (dx dy : D), xs[i]? = some dx → ys[i]? = some dy → Lk h n dx dy) :
    ∃ z, forL .none (gNm 2) (sIf (tNotE (tTru (vF 2 (cs) (aCons (vB ixD (vVar 0) (vVar 2)) (aCons (vB ixD (vVar 1) (vVar 2)) (aNil)))))) (sRet (vC (.bl false))) (sNil)) (rngD 0 ys.length) [some x, some y, none] h = .nx [some x, some y, z] h := by
  obtain ⟨en', h', e', z, h1, h2⟩ := forL_end (chk := .none) (g := gNm 2) (b := (sIf (tNotE (tTru (vF 2 (cs) (aCons (vB ixD (vVar 0) (vVar 2)) (aCons (vB ixD (vVar 1) (vVar 2)) (aNil)))))) (sRet (vC (.bl false))) (sNil))) (rngD 0 ys.length)
    (fun i en h' => ∃ z : Option D, en = [some x, some y, z] ∧ h' = h) [some x, some y, none] h ⟨none, rfl, rfl⟩ (fun _ _ _ _ _ => trivial)
    (fun i v en h' hv ⟨z, h1, h2⟩ => by
      obtain ⟨hi, rfl⟩ := range_get hv
      subst h1
      rw [h2]
      refine ⟨_, rfl, ?_⟩
      have e1 := List.getElem?_eq_getElem (l := xs) (i := i) (by omega)
      have e2 := List.getElem?_eq_getElem (l := ys) (i := i) hi
      simp [hx i _ e1, hy i _ e2, hc _ _ (hk i _ _ e1 e2)]
      exact ⟨⟨_, rfl⟩, rfl⟩)
  rw [h1, h2] at e'
  exact ⟨z, e'⟩
theorem same_run (cs : List D → Hst → Res D) {h : Hst} {n : Nat} (hc : ∀ dx dy, Lk h n dx dy → cs [dx, dy] h = .ok (.bl true) h) {x y : D} (k : Lk h (n + 1) x y) : runF 3 (B_same cs) [x, y] h = .ok (.bl true) h := by
  unfold runF B_same
  rcases k with ⟨b, rfl, rfl⟩ | ⟨i, rfl, rfl⟩ | ⟨s, rfl, rfl⟩ | ⟨xs, ys, rfl, rfl, hl, hm, hk⟩ | ⟨a, b, xs, ys, rfl, rfl, ha, hb, hl, hm, hk⟩
  · simp [tyD, isTy]
  · simp [tyD, isTy]
  · simp [tyD, isTy]
  · obtain ⟨z, e⟩ := same_loop cs hc (x := .tup xs) (y := .tup ys) hl (fun i d e => ixD_tup h (by rw [atI_nat]; exact e)) (fun i d e => ixD_tup h (by rw [atI_nat]; exact e)) hk
    have hl' : (xs.length : Int) = ys.length := by omega
    simp [tyD, isTy, hl', rng1K_nat (j := ys.length) _ (by omega), e]
  · obtain ⟨z, e⟩ := same_loop cs hc (x := .ref a) (y := .ref b) hl (fun i d e => ixD_lst ha (by rw [atI_nat]; exact e)) (fun i d e => ixD_lst hb (by rw [atI_nat]; exact e)) hk
    have hl' : (xs.length : Int) = ys.length := by omega
    simp [tyD_lst ha, tyD_lst hb, lenD_lst ha, lenD_lst hb, isTy, hl', rng1K_nat (j := ys.length) _ (by omega), e]
end Mi

namespace Mi
open PySem PySem.Spec PyProof.Rows L2

/-! ### terms as data -/
def Tm.py : Tm → PyData
  | .nm s => .tuple [.str ⟨sName.toArray⟩, .str ⟨s.toArray⟩]
  | .bd s b => .tuple [.str ⟨sBind.toArray⟩, .str ⟨s.toArray⟩, b.py]
  | .ap f a => .tuple [.str ⟨sApply.toArray⟩, f.py, a.py]
theorem toPy_tm (h : Hst) (n : Nat) : ∀ t : Tm, toPy h n t.d = some t.py
  | .nm s => by simp [Tm.d, Tm.py, toPy, toPys]
  | .bd s b => by simp [Tm.d, Tm.py, toPy, toPys, toPy_tm h n b]
  | .ap f a => by simp [Tm.d, Tm.py, toPy, toPys, toPy_tm h n f, toPy_tm h n a]
theorem py_depth : ∀ t : Tm, t.py.depth ≤ t.high
  | .nm s => by simp [Tm.py, Tm.high, PyData.depth, PyData.depthAll]
  | .bd s b => by
    have := py_depth b
    simp [Tm.py, Tm.high, PyData.depth, PyData.depthAll]
    omega
  | .ap f a => by
    have h1 := py_depth f
    have h2 := py_depth a
    simp [Tm.py, Tm.high, PyData.depth, PyData.depthAll]
    omega
theorem high_le : ∀ t : Tm, t.high ≤ t.sub.length
  | .nm s => by simp [Tm.high, Tm.sub]
  | .bd s b => by have := high_le b; simp [Tm.high, Tm.sub]; omega
  | .ap f a => by have h1 := high_le f; have h2 := high_le a; simp [Tm.high, Tm.sub]; omega
theorem toPys_str (h : Hst) (n : Nat) : ∀ ss : List (List Nat), toPys h n (ss.map .str) = some (ss.map fun s => .str ⟨s.toArray⟩)
  | [] => by simp [toPys]
  | s :: ss => by rw [List.map_cons, toPys, toPys_str h n ss]; simp [toPy]
theorem depthAll_str : ∀ ss : List (List Nat), PyData.depthAll (ss.map fun s => PyData.str ⟨s.toArray⟩) ≤ 1
  | [] => by simp [PyData.depthAll]
  | s :: ss => by have := depthAll_str ss; simp [PyData.depthAll, PyData.depth]; omega
/-- a list against the empty one -/
theorem eqB_nil {a b : Nat} {xs : List D} {ps : List PyData} {h : Hst} (ha : h[a]? = some (.lst xs)) (hb : h[b]? = some (.lst [])) (hp : toPys h 63 xs = some ps) (hd : PyData.depthAll ps ≤ 63) : eqB (.ref a) (.ref b) h = some xs.isEmpty := by
  unfold eqB
  rw [if_neg (by simp [flatD])]
  rw [toPy, toPy]
  rw [ha, hb]
  dsimp only
  rw [hp, toPys]
  dsimp only
  rw [if_pos ⟨by simp only [PyData.depth]; omega, by simp [PyData.depth, PyData.depthAll]⟩]
  cases xs with
  | nil =>
    rw [toPys] at hp
    cases (Option.some.inj hp)
    simp [PyData.eqv, PyData.eqvAll]
  | cons x xs =>
    rw [toPys] at hp
    split at hp
    · cases (Option.some.inj hp)
      simp [PyData.eqv, PyData.eqvAll]
    · cases hp
/-! ### leaves, sound terms -/
def leaves : Tm → List (List Nat)
  | .nm s => [s]
  | .bd _ b => leaves b
  | .ap f a => leaves f ++ leaves a
theorem fr_sub : ∀ {t : Tm} {s : List Nat}, s ∈ fr t → s ∈ leaves t
  | .nm _, _, h => h
  | .bd s b, x, h => fr_sub (t := b) (List.mem_filter.mp h).1
  | .ap f a, x, h => (List.mem_append.mp h).elim (fun q => List.mem_append_left _ (fr_sub q)) fun q => List.mem_append_right _ (fr_sub q)
def WF : Tm → Prop
  | .nm _ => True
  | .bd s b => s ∈ fr b ∧ WF b
  | .ap f a => WF f ∧ WF a ∧ ∀ s ∈ leaves f, s ∉ leaves a
theorem WF.sub : ∀ {t p : Tm}, WF t → p ∈ t.sub → WF p
  | .nm s, p, w, h => by simp [Tm.sub] at h; subst h; trivial
  | .bd s b, p, w, h => by
    rcases List.mem_cons.mp h with h | h
    · subst h; exact w
    · exact WF.sub w.2 h
  | .ap f a, p, w, h => by
    rcases List.mem_cons.mp h with h | h
    · subst h; exact w
    · rcases List.mem_append.mp h with h | h
      · exact WF.sub w.1 h
      · exact WF.sub w.2.1 h
theorem sub_nm (q : List Nat → Bool) : ∀ t : Tm, (t.sub.filter fun p => isNm p && q p.lab).map Tm.lab = (leaves t).filter q
  | .nm s => by by_cases e : q s = true <;> simp [Tm.sub, leaves, isNm, Tm.head, Tm.lab, e]
  | .bd s b => by
    have := sub_nm q b
    rw [Tm.sub, List.filter_cons_of_neg (by simp [isNm, Tm.head]), this, leaves]
  | .ap f a => by
    rw [Tm.sub, List.filter_cons_of_neg (by simp [isNm, Tm.head]), List.filter_append, List.map_append, sub_nm q f, sub_nm q a, leaves, List.filter_append]
theorem bnds_bd (s : List Nat) (b : Tm) : bnds (.bd s b) = s :: bnds b := by
  unfold bnds
  rw [Tm.sub, List.filter_cons_of_pos (by simp [isBd, Tm.head])]
  rfl
theorem bnds_ap (f a : Tm) : bnds (.ap f a) = bnds f ++ bnds a := by
  unfold bnds
  rw [Tm.sub, List.filter_cons_of_neg (by simp [isBd, Tm.head]), List.filter_append, List.map_append]
theorem bnds_in : ∀ {t : Tm}, WF t → ∀ s ∈ bnds t, s ∈ leaves t
  | .nm s, _, x, h => by simp [bnds, Tm.sub, isBd, Tm.head] at h
  | .bd s b, w, x, h => by
    rw [bnds_bd] at h
    rcases List.mem_cons.mp h with h | h
    · subst h; exact fr_sub (t := b) w.1
    · exact bnds_in w.2 x h
  | .ap f a, w, x, h => by
    rw [bnds_ap] at h
    rcases List.mem_append.mp h with h | h
    · exact List.mem_append_left _ (bnds_in w.1 x h)
    · exact List.mem_append_right _ (bnds_in w.2.1 x h)
theorem fr_leaves : ∀ {t : Tm}, WF t → fr t = (leaves t).filter fun s => !decide (s ∈ bnds t)
  | .nm s, _ => by simp [fr, leaves, bnds, Tm.sub, isBd, Tm.head]
  | .bd s b, w => by
    rw [fr, fr_leaves w.2, List.filter_filter, leaves]
    refine List.filter_congr fun x _ => ?_
    rw [bnds_bd]
    by_cases e : x = s <;> simp [e]
  | .ap f a, w => by
    rw [fr, fr_leaves w.1, fr_leaves w.2.1, leaves, List.filter_append]
    congr 1
    · refine List.filter_congr fun x hx => ?_
      rw [bnds_ap]
      have : x ∉ bnds a := fun q => w.2.2 x hx (bnds_in w.2.1 x q)
      simp [this]
    · refine List.filter_congr fun x hx => ?_
      rw [bnds_ap]
      have : x ∉ bnds f := fun q => w.2.2 x (bnds_in w.1 x q) hx
      simp [this]
theorem frees_fr {t : Tm} (w : WF t) : frees t = fr t := by
  unfold frees
  rw [sub_nm (fun s => !decide (s ∈ bnds t)) t, fr_leaves w]
theorem fr_in {t : Tm} {s : List Nat} (w : WF t) (h : s ∈ fr t) : s ∈ leaves t := by
  rw [fr_leaves w] at h
  exact (List.mem_filter.mp h).1
end Mi

namespace Mi
open PySem PySem.Spec PyProof.Rows L2

/-! ### the pile of terms that a law builds -/
def itD (p : Tm × Nat) : D := .tup [p.1.d, .ref p.2]
abbrev lvs (its : List (Tm × Nat)) : List (List Nat) := its.flatMap fun p => leaves p.1
structure Stk (lo : Nat) (nf : Nat → List Nat) (P : Nat) (its : List (Tm × Nat)) (used sz : Nat) (h : Hst) : Prop where
  at_ : h[P]? = some (.lst (its.map itD))
  ok : ∀ p ∈ its, WF p.1 ∧ P < p.2 ∧ h[p.2]? = some (.lst ((fr p.1).map .str))
  nd : (lvs its).Nodup
  nm : ∀ s ∈ lvs its, ∃ k, lo ≤ k ∧ k < used ∧ s = nf k
  lo : lo ≤ used
  sz : (its.flatMap fun p => p.1.sub).length ≤ sz
section
variable {lo : Nat} {nf : Nat → List Nat} {P : Nat} {its : List (Tm × Nat)} {p l : Tm × Nat} {used sz : Nat} {h : Hst}
theorem Stk.app (S : Stk lo nf P its used sz h) (G : Hst) : Stk lo nf P its used sz (h ++ G) := ⟨get_old S.at_, fun p hp => ⟨(S.ok p hp).1, (S.ok p hp).2.1, get_old (S.ok p hp).2.2⟩, S.nd, S.nm, S.lo, S.sz⟩
theorem Stk.lt (S : Stk lo nf P its used sz h) : P < h.length := lt_get S.at_
/-- the pile is written anew, behind it new objects -/
theorem Stk.put {its2 : List (Tm × Nat)} {u2 s2 : Nat} (S : Stk lo nf P its used sz h) (G : Hst) (hk : ∀ p ∈ its2, (p ∈ its ∨ (WF p.1 ∧ h.length ≤ p.2 ∧ (h ++ G)[p.2]? = some (.lst ((fr p.1).map .str)))))
    (nd : (lvs its2).Nodup) (nm : ∀ s ∈ lvs its2, ∃ k, lo ≤ k ∧ k < u2 ∧ s = nf k) (lo2 : lo ≤ u2) (sz2 : (its2.flatMap fun p => p.1.sub).length ≤ s2) : Stk lo nf P its2 u2 s2 (h.set P (.lst (its2.map itD)) ++ G) := by
  have hP := S.lt
  refine ⟨by rw [List.getElem?_append_left (by simpa using hP), List.getElem?_set_self hP], fun p hp => ?_, nd, nm, lo2, sz2⟩
  have go : ∀ (n : Nat) (o : O), n ≠ P → (h ++ G)[n]? = some o → (h.set P (.lst (its2.map itD)) ++ G)[n]? = some o := fun n o hn e => by
    have : h.set P (.lst (its2.map itD)) ++ G = (h ++ G).set P (.lst (its2.map itD)) := by rw [List.set_append, if_pos hP]
    rw [this, List.getElem?_set_ne (fun z => hn z.symm)]
    exact e
  rcases hk p hp with q | ⟨q1, q2, q3⟩
  · obtain ⟨a, b, c⟩ := S.ok p q
    exact ⟨a, b, go _ _ (Nat.ne_of_gt b) (get_old c)⟩
  · have : P < p.2 := by omega
    exact ⟨q1, this, go _ _ (Nat.ne_of_gt this) q3⟩
theorem lvs_two : lvs (its ++ [p, l]) = lvs its ++ (leaves p.1 ++ leaves l.1) := by simp [lvs]
theorem Stk.use (S : Stk lo nf P (its ++ [p, l]) used sz h) (G : Hst) : Stk lo nf P (its ++ [(Tm.ap p.1 l.1, h.length + G.length)]) used (sz + 1) (h.set P (.lst ((its ++ [(Tm.ap p.1 l.1, h.length + G.length)]).map itD)) ++ (G ++ [.lst ((fr (.ap p.1 l.1)).map .str)])) := by
  have wp := (S.ok p (by simp)).1
  have wl := (S.ok l (by simp)).1
  have nd := S.nd
  rw [lvs_two] at nd
  have dis : ∀ s ∈ leaves p.1, s ∉ leaves l.1 := fun s h1 h2 => by
    have := (List.nodup_append.mp nd).2.1
    exact (List.nodup_append.mp this).2.2 s h1 s h2 rfl
  have el : lvs (its ++ [(Tm.ap p.1 l.1, h.length + G.length)]) = lvs its ++ (leaves p.1 ++ leaves l.1) := by simp [lvs, leaves]
  refine S.put (G ++ [_]) (fun q hq => ?_) (by rw [el]; exact nd) (fun s hs => ?_) S.lo ?_
  · rcases List.mem_append.mp hq with hq | hq
    · exact .inl (by simp [hq])
    · have : q = (Tm.ap p.1 l.1, h.length + G.length) := by simpa using hq
      subst this
      refine .inr ⟨⟨wp, wl, dis⟩, Nat.le_add_right _ _, ?_⟩
      rw [← List.append_assoc, ← List.length_append, get_app]
      rfl
  · rw [el, ← lvs_two] at hs
    exact S.nm s hs
  · have := S.sz
    simp [Tm.sub] at this ⊢
    omega
theorem Stk.bind {s : List Nat} (S : Stk lo nf P (its ++ [l]) used sz h) (hs : s ∈ fr l.1) (G : Hst) : Stk lo nf P (its ++ [(Tm.bd s l.1, h.length + G.length)]) used (sz + 1) (h.set P (.lst ((its ++ [(Tm.bd s l.1, h.length + G.length)]).map itD)) ++ (G ++ [.lst ((fr (.bd s l.1)).map .str)])) := by
  have wl := (S.ok l (by simp)).1
  have el : lvs (its ++ [(Tm.bd s l.1, h.length + G.length)]) = lvs (its ++ [l]) := by simp [lvs, leaves]
  refine S.put (G ++ [_]) (fun q hq => ?_) (by rw [el]; exact S.nd) (fun s hs => ?_) S.lo ?_
  · rcases List.mem_append.mp hq with hq | hq
    · exact .inl (by simp [hq])
    · have : q = (Tm.bd s l.1, h.length + G.length) := by simpa using hq
      subst this
      refine .inr ⟨⟨hs, wl⟩, Nat.le_add_right _ _, ?_⟩
      rw [← List.append_assoc, ← List.length_append, get_app]
      rfl
  · rw [el] at hs
    exact S.nm s hs
  · have := S.sz
    simp [Tm.sub] at this ⊢
    omega
theorem Stk.name (S : Stk lo nf P its used sz h) (inj : ∀ k, lo ≤ k → k < used → nf k ≠ nf used) (G : Hst) : Stk lo nf P (its ++ [(Tm.nm (nf used), h.length + G.length)]) (used + 1) (sz + 1) (h.set P (.lst ((its ++ [(Tm.nm (nf used), h.length + G.length)]).map itD)) ++ (G ++ [.lst [.str (nf used)]])) := by
  have el : lvs (its ++ [(Tm.nm (nf used), h.length + G.length)]) = lvs its ++ [nf used] := by simp [lvs, leaves]
  refine S.put (G ++ [_]) (fun q hq => ?_) ?_ (fun s hs => ?_) (Nat.le_succ_of_le S.lo) ?_
  · rcases List.mem_append.mp hq with hq | hq
    · exact .inl hq
    · have : q = (Tm.nm (nf used), h.length + G.length) := by simpa using hq
      subst this
      refine .inr ⟨trivial, Nat.le_add_right _ _, ?_⟩
      rw [← List.append_assoc, ← List.length_append, get_app]
      rfl
  · rw [el]
    refine List.nodup_append.mpr ⟨S.nd, by simp, fun a ha b hb z => ?_⟩
    have : b = nf used := by simpa using hb
    subst this
    obtain ⟨k, hk0, hk, e⟩ := S.nm a ha
    exact inj k hk0 hk (by rw [← e]; exact z)
  · rw [el] at hs
    rcases List.mem_append.mp hs with hs | hs
    · obtain ⟨k, hk0, hk, e⟩ := S.nm s hs
      exact ⟨k, hk0, by omega, e⟩
    · exact ⟨used, S.lo, by omega, by simpa using hs⟩
  · have := S.sz
    simp [Tm.sub] at this ⊢
    omega
theorem toPys_its (nn : Nat) (e : ∀ p ∈ its, h[p.2]? = some (.lst ((fr p.1).map .str))) : ∃ ps, toPys h (nn + 1) (its.map itD) = some ps ∧ PyData.depthAll ps ≤ (its.flatMap fun p => p.1.sub).length + 2 := by
  induction its with
  | nil => exact ⟨[], by simp [toPys], by simp [PyData.depthAll]⟩
  | cons p its ih =>
    obtain ⟨ps, e1, e2⟩ := ih fun q hq => e q (List.mem_cons_of_mem _ hq)
    have e3 := e p (by simp)
    have e4 : toPy h (nn + 1) (itD p) = some (.tuple [p.1.py, .list ((fr p.1).map fun s => .str ⟨s.toArray⟩)]) := by
      unfold itD
      rw [toPy, toPys, toPys, toPys, toPy_tm, toPy]
      rw [e3]
      dsimp only
      rw [toPys_str]
    refine ⟨_ :: ps, by rw [List.map_cons, toPys, e4, e1], ?_⟩
    have d1 := py_depth p.1
    have d2 := high_le p.1
    have d3 := depthAll_str (fr p.1)
    have d4 := p.1.sub_pos
    simp only [PyData.depth, PyData.depthAll, List.flatMap_cons, List.length_append]
    omega
end
end Mi

namespace Mi
open PySem PySem.Spec PyProof.Rows L2
@[simp] theorem it0 (p : Tm × Nat) (h : Hst) : ixD (itD p) (.int 0) h = .ok p.1.d h := ixT0 _ _ _
@[simp] theorem it1 (p : Tm × Nat) (h : Hst) : ixD (itD p) (.int 1) h = .ok (.ref p.2) h := ixT1 _ _ _ _
theorem set_two {h : Hst} {n : Nat} (a b : O) : (h.set n a).set n b = h.set n b := by simp


/-- all of the old heap but the pile stands -/
def Kp (m : Nat) (h h' : Hst) : Prop := ∀ i o, i < m → h[i]? = some o → h'[i]? = some o
theorem Kp.refl (m : Nat) (h : Hst) : Kp m h h := fun _ _ _ e => e
theorem Kp.trans {m : Nat} {a b c : Hst} (x : Kp m a b) (y : Kp m b c) : Kp m a c := fun i o hi e => y i o hi (x i o hi e)
theorem Kp.app (m : Nat) (h l : Hst) : Kp m h (h ++ l) := fun i o _ e => get_old e
theorem Kp.put (m : Nat) (h l : Hst) (o : O) : Kp m h (h.set m o ++ l) := fun i u hi e => get_old (by rw [List.getElem?_set_ne (by omega)]; exact e)
theorem eqB_str_nil {a b : Nat} {ss : List (List Nat)} {h : Hst} (ha : h[a]? = some (.lst (ss.map .str))) (hb : h[b]? = some (.lst [])) : eqB (.ref a) (.ref b) h = some ss.isEmpty := by
  rw [eqB_nil ha hb (toPys_str h 63 ss) (by have := depthAll_str ss; omega)]
  cases ss <;> rfl
theorem neD_of {x y : D} {h : Hst} {b : Bool} (e : eqB x y h = some b) : neD x y h = .ok (.bl (!b)) h := by unfold neD; rw [e]
theorem eqD_of {x y : D} {h : Hst} {b : Bool} (e : eqB x y h = some b) : eqD x y h = .ok (.bl b) h := by unfold eqD; rw [e]
section
variable {lo : Nat} {nf : Nat → List Nat} {P : Nat} {its : List (Tm × Nat)} {used sz : Nat} {h : Hst}
theorem its_len (S : Stk lo nf P its used sz h) : its.length ≤ sz := by
  refine Nat.le_trans ?_ S.sz
  clear S
  induction its with
  | nil => simp
  | cons q its ih => have := q.1.sub_pos; simp only [List.flatMap_cons, List.length_append, List.length_cons]; omega
end


theorem finish_tup (h h' : Hst) (d : D) (r : Nat) : finish h (.tup [d, .ref r]) h' = .ok (.tup [d, .ref r]) h' := by
  unfold finish
  split
  · rfl
  · split
    · dsimp only
      rw [if_neg]
      simp [D.noRef, D.noRefs]
    · rfl
end Mi

namespace Mi
namespace TA
open PySem PySem.Spec PyProof.Rows L2


def T_use : Sm := (sSeq (sSet 5 (vM .list popM (vVar 2) (aNil))) <|
    sSeq (sSet 6 (vM .list popM (vVar 2) (aNil))) <|
    sExpr (vM .list appendM (vVar 2) (aCons (vTup (aCons (vTup (aCons (vC (.str [97, 112, 112, 108, 121])) (aCons (vB ixD (vVar 6) (vC (.int 0))) (aCons (vB ixD (vVar 5) (vC (.int 0))) (aNil))))) (aCons (vB addD (vB ixD (vVar 6) (vC (.int 1))) (vB ixD (vVar 5) (vC (.int 1)))) (aNil)))) (aNil))))
def T_bind : Sm := (sSeq (sSet 5 (vM .list popM (vVar 2) (aNil))) <|
    sSeq (sSet 7 (vB ixD (vB ixD (vVar 5) (vC (.int 1))) (vB modD (vB divD (vVar 4) (vC (.int 3))) (vCall lenD (aCons (vB ixD (vVar 5) (vC (.int 1))) (aNil)))))) <|
    sExpr (vM .list appendM (vVar 2) (aCons (vTup (aCons (vTup (aCons (vC (.str [98, 105, 110, 100])) (aCons (vVar 7) (aCons (vB ixD (vVar 5) (vC (.int 0))) (aNil))))) (aCons (vLc [8] (iSeq (vB ixD (vVar 5) (vC (.int 1)))) (gNm 8) (tV (vB neD (vVar 8) (vVar 7))) (vVar 8)) (aNil)))) (aNil))))
def T_name (cn : List D → Hst → Res D) : Sm := sExpr (vM .list appendM (vVar 2) (aCons (vTup (aCons (vTup (aCons (vC (.str [110, 97, 109, 101])) (aCons (vF 2 (cn) (aCons (vVar 3) (aCons (vVar 1) (aNil)))) (aNil)))) (aCons (vLst (aCons (vF 2 (cn) (aCons (vVar 3) (aCons (vVar 1) (aNil)))) (aNil))) (aNil)))) (aNil)))
def T_turn (cn : List D → Hst → Res D) : Sm := (sIf (tAndE (tV (vB eqD (vB modD (vVar 4) (vC (.int 3))) (vC (.int 2)))) (tV (vB geD (vCall lenD (aCons (vVar 2) (aNil))) (vC (.int 2))))) T_use
    (sIf (tAndE (tV (vB eqD (vB modD (vVar 4) (vC (.int 3))) (vC (.int 1)))) (tAndE (tV (vB neD (vVar 2) (vLst (aNil)))) (tV (vB neD (vB ixD (vB ixD (vVar 2) (vU negD (vC (.int 1)))) (vC (.int 1))) (vLst (aNil)))))) T_bind
    (sSeq (T_name cn) <| sSet 3 (vB addD (vVar 3) (vC (.int 1))))))
def T_last : Sm := (sIf (tV (vB geD (vCall lenD (aCons (vVar 2) (aNil))) (vC (.int 2)))) T_use (sNil))
def B_term (cn : List D → Hst → Res D) : Sm :=
    sSeq (sSet 2 (vLst (aNil))) <|
    sSeq (sSet 3 (vC (.int 0))) <|
    sSeq (sFor (iSeq (vVar 0)) (gNm 4) (T_turn cn)) <|
    sSeq (sIf (tV (vB eqD (vVar 2) (vLst (aNil)))) (T_name cn) (sNil)) <|
    sSeq (sFor (iRng1 (aCons (vCall lenD (aCons (vVar 0) (aNil))) (aNil))) (gNm 9) T_last) <|
    sRet (vB ixD (vVar 2) (vC (.int 0)))
section
variable {lo : Nat} {nf : Nat → List Nat} {P : Nat} {its : List (Tm × Nat)} {p l : Tm × Nat} {used sz : Nat} {h : Hst} {a b c xq x4 x5 x6 x7 x8 x9 : Option D}
theorem use_run (S : Stk lo nf P (its ++ [p, l]) used sz h) (hz : sz ≤ 100000) : T_use [a, b, some (.ref P), c, x4, x5, x6, x7, x8, x9] h =
    .nx [a, b, some (.ref P), c, x4, some (itD l), some (itD p), x7, x8, x9] (h.set P (.lst ((its ++ [(Tm.ap p.1 l.1, h.length)]).map itD)) ++ [.lst ((fr (.ap p.1 l.1)).map .str)]) := by
  have hP := S.lt
  have a0 : h[P]? = some (.lst ((its.map itD ++ [itD p]) ++ [itD l])) := by rw [S.at_]; simp
  have a1 : (h.set P (.lst (its.map itD ++ [itD p])))[P]? = some (.lst (its.map itD ++ [itD p])) := by rw [List.getElem?_set_self hP]
  have a2 : (h.set P (.lst (its.map itD)))[P]? = some (.lst (its.map itD)) := by rw [List.getElem?_set_self hP]
  have op := S.ok p (by simp)
  have ol := S.ok l (by simp)
  have p2 : (h.set P (.lst (its.map itD)))[p.2]? = some (.lst ((fr p.1).map .str)) := by rw [List.getElem?_set_ne (Nat.ne_of_lt op.2.1)]; exact op.2.2
  have l2 : (h.set P (.lst (its.map itD)))[l.2]? = some (.lst ((fr l.1).map .str)) := by rw [List.getElem?_set_ne (Nat.ne_of_lt ol.2.1)]; exact ol.2.2
  have b1 := fr_len p.1
  have b2 := fr_len l.1
  have b3 := S.sz
  have b4 : its.length ≤ (its.flatMap fun p => p.1.sub).length := by
    clear b3 a0 a1 a2 p2 l2 S op ol
    induction its with
    | nil => simp
    | cons q its ih => have := q.1.sub_pos; simp only [List.flatMap_cons, List.length_append, List.length_cons]; omega
  simp only [List.flatMap_append, List.flatMap_cons, List.flatMap_nil, List.length_append, List.length_nil] at b3
  have ad : addD (.ref p.2) (.ref l.2) (h.set P (.lst (its.map itD))) = .ok (.ref h.length) (h.set P (.lst (its.map itD)) ++ [.lst ((fr (.ap p.1 l.1)).map .str)]) := by rw [addD_ref p2 l2 (by simp; omega)]; simp [fr]
  have q1 : (h.set P (.lst (its.map itD)) ++ [O.lst ((fr (.ap p.1 l.1)).map .str)])[P]? = some (.lst (its.map itD)) := get_old a2
  have q2 : ∀ (u : D), appendM (.ref P) [u] (h.set P (.lst (its.map itD)) ++ [O.lst ((fr (.ap p.1 l.1)).map .str)]) = .ok .non (h.set P (.lst (its.map itD ++ [u])) ++ [O.lst ((fr (.ap p.1 l.1)).map .str)]) := fun u => by
    rw [appendM_ref _ q1 (by simp; omega), List.set_append, if_pos (by simpa using hP), set_two]
  unfold T_use
  have en : itD (Tm.ap p.1 l.1, h.length) = .tup [.tup [.str [97, 112, 112, 108, 121], p.1.d, l.1.d], .ref h.length] := rfl
  simp [tyD_lst a0, popM_last a0, tyD_lst a1, popM_last a1, set_two, tyD_lst a2, ad, q2, en]
theorem name_run (cn : List D → Hst → Res D) {style : Int} (S : Stk lo nf P its used sz h) (hz : sz ≤ 100000) (hc : ∀ h, cn [.int used, .int style] h = .ok (.str (nf used)) h) : T_name cn [a, some (.int style), some (.ref P), some (.int used), x4, x5, x6, x7, x8, x9] h =
    .nx [a, some (.int style), some (.ref P), some (.int used), x4, x5, x6, x7, x8, x9] (h.set P (.lst ((its ++ [(Tm.nm (nf used), h.length)]).map itD)) ++ [.lst [.str (nf used)]]) := by
  have hP := S.lt
  have b3 := S.sz
  have b4 : its.length ≤ (its.flatMap fun p => p.1.sub).length := by
    clear b3 S
    induction its with
    | nil => simp
    | cons q its ih => have := q.1.sub_pos; simp only [List.flatMap_cons, List.length_append, List.length_cons]; omega
  have q1 : (h ++ [O.lst [.str (nf used)]])[P]? = some (.lst (its.map itD)) := get_old S.at_
  have q2 : ∀ (u : D), appendM (.ref P) [u] (h ++ [O.lst [.str (nf used)]]) = .ok .non (h.set P (.lst (its.map itD ++ [u])) ++ [O.lst [.str (nf used)]]) := fun u => by
    rw [appendM_ref _ q1 (by simp; omega), List.set_append, if_pos hP]
  unfold T_name
  have en : itD (Tm.nm (nf used), h.length) = .tup [.tup [.str [110, 97, 109, 101], .str (nf used)], .ref h.length] := rfl
  simp [tyD_lst S.at_, hc, q2, en]
end
section
variable {lo : Nat} {nf : Nat → List Nat} {P : Nat} {its : List (Tm × Nat)} {p l : Tm × Nat} {used sz : Nat} {h : Hst} {a b c xq x4 x5 x6 x7 x8 x9 : Option D}
theorem bind_run {z : Int} (hz0 : 0 ≤ z) (S : Stk lo nf P (its ++ [l]) used sz h) (hz : sz ≤ 100000) (ne : fr l.1 ≠ []) : ∃ s, s ∈ fr l.1 ∧ T_bind [a, b, some (.ref P), c, some (.int z), x5, x6, x7, x8, x9] h =
    .nx [a, b, some (.ref P), c, some (.int z), some (itD l), x6, some (.str s), x8, x9] (h.set P (.lst ((its ++ [(Tm.bd s l.1, h.length)]).map itD)) ++ [.lst ((fr (.bd s l.1)).map .str)]) := by
  have hP := S.lt
  have a0 : h[P]? = some (.lst (its.map itD ++ [itD l])) := by rw [S.at_]; simp
  have a2 : (h.set P (.lst (its.map itD)))[P]? = some (.lst (its.map itD)) := by rw [List.getElem?_set_self hP]
  have ol := S.ok l (by simp)
  have l2 : (h.set P (.lst (its.map itD)))[l.2]? = some (.lst ((fr l.1).map .str)) := by rw [List.getElem?_set_ne (Nat.ne_of_lt ol.2.1)]; exact ol.2.2
  have lp : 0 < (fr l.1).length := List.length_pos_iff.mpr ne
  obtain ⟨s, hs, at_s⟩ := atI_ex (xs := fr l.1) (i := z / 3 % ((fr l.1).length : Int)) (Int.emod_nonneg _ (by omega)) (Int.emod_lt_of_pos _ (by omega))
  have at_s2 : atI ((fr l.1).map D.str) (z / 3 % ((fr l.1).length : Int)) = some (.str s) := by rw [atI_map, at_s]; rfl
  refine ⟨s, hs, ?_⟩
  have b4 := its_len S
  have b1 := fr_len l.1
  have b3 := S.sz
  simp only [List.flatMap_append, List.flatMap_cons, List.flatMap_nil, List.length_append, List.length_nil] at b3
  have q1 : (h.set P (.lst (its.map itD)) ++ [O.lst ((fr (.bd s l.1)).map .str)])[P]? = some (.lst (its.map itD)) := get_old a2
  have q2 : ∀ (u : D), appendM (.ref P) [u] (h.set P (.lst (its.map itD)) ++ [O.lst ((fr (.bd s l.1)).map .str)]) = .ok .non (h.set P (.lst (its.map itD ++ [u])) ++ [O.lst ((fr (.bd s l.1)).map .str)]) := fun u => by
    rw [appendM_ref _ q1 (by simp at b4 ⊢; omega), List.set_append, if_pos (by simpa using hP), set_two]
  have lc := lcL_filt (chk := .some (l.2, (fr l.1).map .str)) (g := gNm 8) (t := (tV (vB neD (vVar 8) (vVar 7)))) (f := vVar 8) (en := [a, b, some (.ref P), c, some (.int z), some (itD l), x6, some (.str s), none, x9]) (h := h.set P (.lst (its.map itD))) D.str (fun x => !decide (x = s)) D.str l2 (fr l.1) []
      (by simp; omega) (fun x hx => ⟨_, rfl, by simp, fun q => by simp⟩)
  simp only [List.nil_append] at lc
  have en : itD (Tm.bd s l.1, h.length) = .tup [.tup [.str [98, 105, 110, 100], .str s, l.1.d], .ref h.length] := rfl
  have fe : (fr (.bd s l.1)).map D.str = ((fr l.1).filter fun x => !decide (x = s)).map D.str := rfl
  rw [← fe] at lc
  unfold T_bind
  simp [tyD_lst a0, popM_last a0, tyD_lst a2, lenD_lst l2, lp, ixD_lst l2 at_s2, iterD_ref l2, wipeE, lc, q2, en]
/-- one digit -/
theorem turn_run (cn : List D → Hst → Res D) {style z : Int} (hz0 : 0 ≤ z) (S : Stk lo nf P its used sz h) (hz : sz ≤ 61) (hc : ∀ h, cn [.int used, .int style] h = .ok (.str (nf used)) h) (inj : ∀ k, lo ≤ k → k < used → nf k ≠ nf used) :
    ∃ (its' : List (Tm × Nat)) (used' : Nat) (y5 y6 y7 y8 : Option D) (h' : Hst), T_turn cn [a, some (.int style), some (.ref P), some (.int used), some (.int z), x5, x6, x7, x8, x9] h = .nx [a, some (.int style), some (.ref P), some (.int used'), some (.int z), y5, y6, y7, y8, x9] h' ∧
      Stk lo nf P its' used' (sz + 1) h' ∧ used' ≤ used + 1 ∧ its' ≠ [] ∧ Kp P h h' := by
  have nameCase : ∀ G : Hst, ∃ (its' : List (Tm × Nat)) (used' : Nat) (h' : Hst), (sSeq (T_name cn) <| sSet 3 (vB addD (vVar 3) (vC (.int 1)))) [a, some (.int style), some (.ref P), some (.int used), some (.int z), x5, x6, x7, x8, x9] (h ++ G) = .nx [a, some (.int style), some (.ref P), some (.int used'), some (.int z), x5, x6, x7, x8, x9] h' ∧
      Stk lo nf P its' used' (sz + 1) h' ∧ used' ≤ used + 1 ∧ its' ≠ [] ∧ Kp P h h' := fun G => by
    have S2 := S.app G
    refine ⟨_, used + 1, _, ?_, (S2.name inj []), Nat.le_refl _, by simp, (Kp.app P h G).trans (Kp.put P _ _ _)⟩
    rw [sSeq_ap, name_run cn S2 (by omega) hc]
    simp
  have m3 : (0 : Int) < 3 := by decide
  by_cases c2 : z % 3 = 2 ∧ 2 ≤ its.length
  · obtain ⟨q1, q2⟩ := c2
    obtain ⟨its0, p, l, rfl⟩ : ∃ its0 p l, its = its0 ++ [p, l] := by
      refine ⟨its.take (its.length - 2), its[its.length - 2], its[its.length - 1], ?_⟩
      have e : its.drop (its.length - 2) = [its[its.length - 2], its[its.length - 1]] := by
        rw [List.drop_eq_getElem_cons (by omega), List.drop_eq_getElem_cons (by omega), List.drop_eq_nil_of_le (by omega)]
        congr 3
        omega
      rw [← e, List.take_append_drop]
    refine ⟨_, used, some (itD l), some (itD p), x7, x8, _, ?_, S.use [], by omega, by simp, Kp.put P _ _ _⟩
    have ge : (2 : Int) ≤ ((its0 ++ [p, l]).map itD).length := by simp; omega
    have u := use_run (a := a) (b := some (.int style)) (c := some (.int used)) (x4 := some (.int z)) (x5 := x5) (x6 := x6) (x7 := x7) (x8 := x8) (x9 := x9) S (by omega)
    unfold T_turn
    rw [sIf_ap]
    have t : (tAndE (tV (vB eqD (vB modD (vVar 4) (vC (.int 3))) (vC (.int 2)))) (tV (vB geD (vCall lenD (aCons (vVar 2) (aNil))) (vC (.int 2))))) [a, some (.int style), some (.ref P), some (.int used), some (.int z), x5, x6, x7, x8, x9] h = .ok true h := by
      simp only [tAndE_ap, tV_ap, vB_ap, vVar_ap, vC_ap, vCall_ap, aCons_ap, aNil_ap, List.getElem?_cons_succ, List.getElem?_cons_zero, bind_ok, modD_int _ _ _ m3, eqD_int, asB_bl, q1, lenD_lst S.at_, geD_int, ge, decide_true]
      rfl
    rw [t]
    simp only [bindS_ok]
    exact u
  · have t1 : (tAndE (tV (vB eqD (vB modD (vVar 4) (vC (.int 3))) (vC (.int 2)))) (tV (vB geD (vCall lenD (aCons (vVar 2) (aNil))) (vC (.int 2))))) [a, some (.int style), some (.ref P), some (.int used), some (.int z), x5, x6, x7, x8, x9] h = .ok false h := by
      by_cases q : z % 3 = 2
      · have : ¬ (2 : Int) ≤ (its.map itD).length := by simp; omega
        simp only [tAndE_ap, tV_ap, vB_ap, vVar_ap, vC_ap, vCall_ap, aCons_ap, aNil_ap, List.getElem?_cons_succ, List.getElem?_cons_zero, bind_ok, modD_int _ _ _ m3, eqD_int, asB_bl, q, lenD_lst S.at_, geD_int, this, decide_false]
        rfl
      · have : (z % 3 == 2) = false := by simpa using q
        simp only [tAndE_ap, tV_ap, vB_ap, vVar_ap, vC_ap, List.getElem?_cons_succ, List.getElem?_cons_zero, bind_ok, modD_int _ _ _ m3, eqD_int, asB_bl, this]
    unfold T_turn
    rw [sIf_ap, t1]
    simp only [bindS_ok]
    rw [sIf_ap]
    obtain ⟨ps, e1, e2⟩ := toPys_its (its := its) (h := h ++ [O.lst []]) 62 (fun p hp => get_old (S.ok p hp).2.2)
    have n1 : neD (.ref P) (.ref h.length) (h ++ [O.lst []]) = .ok (.bl (!its.isEmpty)) (h ++ [O.lst []]) := by
      rw [neD_of (eqB_nil (get_old S.at_) (by rw [get_app]; rfl) e1 (by have := S.sz; omega))]
      cases its <;> rfl
    by_cases q : z % 3 = 1
    · by_cases ei : its = []
      · have t2 : (tAndE (tV (vB eqD (vB modD (vVar 4) (vC (.int 3))) (vC (.int 1)))) (tAndE (tV (vB neD (vVar 2) (vLst (aNil)))) (tV (vB neD (vB ixD (vB ixD (vVar 2) (vU negD (vC (.int 1)))) (vC (.int 1))) (vLst (aNil)))))) [a, some (.int style), some (.ref P), some (.int used), some (.int z), x5, x6, x7, x8, x9] h = .ok false (h ++ [O.lst []]) := by
          rw [ei] at n1
          simp [q, n1]
        rw [t2]
        obtain ⟨i', u', h', r1, r2⟩ := nameCase [O.lst []]
        exact ⟨i', u', _, _, _, _, h', by simp only [bindS_ok]; exact r1, r2⟩
      · obtain ⟨its0, l, rfl⟩ : ∃ its0 l, its = its0 ++ [l] := ⟨its.dropLast, its.getLast ei, (List.dropLast_concat_getLast ei).symm⟩
        have ol := S.ok l (by simp)
        have atl : atI ((its0 ++ [l]).map itD) (-1) = some (itD l) := by
          unfold atI ixN
          rw [if_neg (by decide), if_pos (by simp; omega)]
          have eL : (-1 + (((its0 ++ [l]).map itD).length : Int)).toNat = its0.length := by simp; omega
          show ((its0 ++ [l]).map itD)[(-1 + (((its0 ++ [l]).map itD).length : Int)).toNat]? = _
          rw [eL]
          simp
        have n2 : neD (.ref l.2) (.ref (h.length + 1)) (h ++ [O.lst [], O.lst []]) = .ok (.bl (!(fr l.1).isEmpty)) (h ++ [O.lst [], O.lst []]) := neD_of (eqB_str_nil (get_old ol.2.2) (by rw [get_app2]; rfl))
        have ix : ixD (.ref P) (.int (-1)) (h ++ [O.lst []]) = .ok (itD l) (h ++ [O.lst []]) := ixD_lst (get_old S.at_) atl
        have ne1 : (its0 ++ [l]).isEmpty = false := by simp
        rw [ne1] at n1
        have t2 : (tAndE (tV (vB eqD (vB modD (vVar 4) (vC (.int 3))) (vC (.int 1)))) (tAndE (tV (vB neD (vVar 2) (vLst (aNil)))) (tV (vB neD (vB ixD (vB ixD (vVar 2) (vU negD (vC (.int 1)))) (vC (.int 1))) (vLst (aNil)))))) [a, some (.int style), some (.ref P), some (.int used), some (.int z), x5, x6, x7, x8, x9] h = .ok (!(fr l.1).isEmpty) (h ++ [O.lst [], O.lst []]) := by
          simp [q, n1, ix, n2]
        rw [t2]
        by_cases ef : fr l.1 = []
        · obtain ⟨i', u', h', r1, r2⟩ := nameCase [O.lst [], O.lst []]
          exact ⟨i', u', _, _, _, _, h', by rw [ef]; simp only [bindS_ok, List.isEmpty_nil, Bool.not_true]; exact r1, r2⟩
        · obtain ⟨s, hs, r⟩ := bind_run (a := a) (b := some (.int style)) (c := some (.int used)) (x5 := x5) (x6 := x6) (x7 := x7) (x8 := x8) (x9 := x9) hz0 (S.app [O.lst [], O.lst []]) (by omega) ef
          have ne2 : (fr l.1).isEmpty = false := by simpa using ef
          exact ⟨_, used, _, _, _, _, _, by rw [ne2]; simp only [bindS_ok, Bool.not_false]; exact r, (S.app _).bind hs [], by omega, by simp, (Kp.app P h _).trans (Kp.put P _ _ _)⟩
    · have t2 : (tAndE (tV (vB eqD (vB modD (vVar 4) (vC (.int 3))) (vC (.int 1)))) (tAndE (tV (vB neD (vVar 2) (vLst (aNil)))) (tV (vB neD (vB ixD (vB ixD (vVar 2) (vU negD (vC (.int 1)))) (vC (.int 1))) (vLst (aNil)))))) [a, some (.int style), some (.ref P), some (.int used), some (.int z), x5, x6, x7, x8, x9] h = .ok false h := by
        have : (z % 3 == 1) = false := by simpa using q
        simp only [tAndE_ap, tV_ap, vB_ap, vVar_ap, vC_ap, List.getElem?_cons_succ, List.getElem?_cons_zero, bind_ok, modD_int _ _ _ m3, eqD_int, asB_bl, this]
      rw [t2]
      obtain ⟨i', u', h', r1, r2⟩ := nameCase []
      rw [List.append_nil] at r1
      exact ⟨i', u', _, _, _, _, h', by simp only [bindS_ok]; exact r1, r2⟩
end
theorem term_run (cn : List D → Hst → Res D) {style : Int} (nf : Nat → List Nat) (hnf : ∀ (k : Nat) (h : Hst), k ≤ 0 + 61 → cn [.int k, .int style] h = .ok (.str (nf k)) h) (ds : List Int) (inj : ∀ i j, 0 ≤ i → i < j → j < 0 + ds.length → nf i ≠ nf j) (hl : ds.length ≤ 61) (dig : ∀ d ∈ ds, 0 ≤ d)
    (h : Hst) {dr : Nat} (e : h[dr]? = some (.lst (ds.map .int))) : ∃ (t : Tm) (r : Nat) (h' : Hst), runF 10 (B_term cn) [.ref dr, .int style] h = .ok (.tup [t.d, .ref r]) h' ∧ WF t ∧ t.sub.length ≤ 2 * ds.length + 1 ∧ (leaves t).Nodup ∧ (∀ s ∈ leaves t, ∃ k, 0 ≤ k ∧ k < 0 + max ds.length 1 ∧ s = nf k) ∧ h'[r]? = some (.lst ((fr t).map .str)) ∧ h.length ≤ r ∧ ∀ (i : Nat) (o : O), h[i]? = some o → h'[i]? = some o := by
  have hdr := lt_get e
  -- the digits
  obtain ⟨en1, h1, l1, its, used, x4, x5, x6, x7, x8, q1, S, q2, z0, k1⟩ := forL_end (chk := .some (dr, ds.map .int)) (g := gNm 4) (b := T_turn cn) (ds.map .int)
    (fun i en h' => ∃ (its : List (Tm × Nat)) (used : Nat) (x4 x5 x6 x7 x8 : Option D), en = [some (.ref dr), some (.int style), some (.ref h.length), some (.int used), x4, x5, x6, x7, x8, none] ∧ Stk 0 nf h.length its used i h' ∧ used ≤ 0 + i ∧ (its = [] → i = 0 ∧ used = 0) ∧ Kp h.length h h')
    [some (.ref dr), some (.int style), some (.ref h.length), some (.int 0), none, none, none, none, none, none] (h ++ [.lst []])
    ⟨[], 0, none, none, none, none, none, rfl, ⟨by rw [get_app]; rfl, by simp, by simp, by simp, Nat.le_refl _, by simp⟩, Nat.le_refl _, fun _ => ⟨rfl, rfl⟩, Kp.app _ _ _⟩
    (fun i en h' hi ⟨_, _, _, _, _, _, _, _, _, _, _, k⟩ => k dr _ hdr e)
    (fun i x en h' hx ⟨its, used, x4, x5, x6, x7, x8, q1, S, q2, _, k⟩ => by
      have hi := (List.getElem?_eq_some_iff.mp hx).1
      rw [List.length_map] at hi
      rw [List.getElem?_map] at hx
      obtain ⟨z, hz, rfl⟩ := Option.map_eq_some_iff.mp hx
      subst q1
      refine ⟨_, rfl, ?_⟩
      obtain ⟨its', used', y5, y6, y7, y8, h2, r1, S2, u2, n2, k2⟩ := turn_run (a := some (.ref dr)) (x5 := x5) (x6 := x6) (x7 := x7) (x8 := x8) (x9 := none) cn (dig z (List.mem_of_getElem? hz)) S (by omega) (fun h => hnf used h (by omega)) (fun k hk0 hk => inj k used hk0 hk (by omega))
      show (T_turn cn [some (.ref dr), some (.int style), some (.ref h.length), some (.int used), some (.int z), x5, x6, x7, x8, none] h').sat _ _
      rw [r1]
      exact ⟨its', used', some (.int z), y5, y6, y7, y8, rfl, S2, by omega, fun z => absurd z n2, k.trans k2⟩)
  subst q1
  rw [List.length_map] at S q2
  -- at least one
  have step2 : ∃ (its2 : List (Tm × Nat)) (u2 : Nat) (h2 : Hst), sIf (tV (vB eqD (vVar 2) (vLst (aNil)))) (T_name cn) (sNil) [some (.ref dr), some (.int style), some (.ref h.length), some (.int used), x4, x5, x6, x7, x8, none] h1 =
      .nx [some (.ref dr), some (.int style), some (.ref h.length), some (.int used), x4, x5, x6, x7, x8, none] h2 ∧ Stk 0 nf h.length its2 u2 (ds.length + 1) h2 ∧ its2 ≠ [] ∧ u2 ≤ 0 + max ds.length 1 ∧ Kp h.length h h2 := by
    obtain ⟨ps, e1, e2⟩ := toPys_its (its := its) (h := h1 ++ [O.lst []]) 62 (fun p hp => get_old (S.ok p hp).2.2)
    have n1 : eqD (.ref h.length) (.ref h1.length) (h1 ++ [O.lst []]) = .ok (.bl its.isEmpty) (h1 ++ [O.lst []]) := by
      rw [eqD_of (eqB_nil (get_old S.at_) (by rw [get_app]; rfl) e1 (by have := S.sz; omega))]
      cases its <;> rfl
    by_cases ei : its = []
    · have u0 : 0 = used := (z0 ei).2.symm
      subst ei
      subst u0
      refine ⟨_, 0 + 1, _, ?_, (S.app [O.lst []]).name (fun k hk0 hk => absurd hk (Nat.not_lt.mpr hk0)) [], by simp, by omega, (k1.trans (Kp.app _ _ _)).trans (Kp.put _ _ _ _)⟩
      have r := name_run (a := some (.ref dr)) (x4 := x4) (x5 := x5) (x6 := x6) (x7 := x7) (x8 := x8) (x9 := none) cn (S.app [O.lst []]) (by omega) (fun h => hnf 0 h (by omega))
      simp [n1]
      simpa using r
    · have : its.isEmpty = false := by simpa using ei
      rw [this] at n1
      exact ⟨its, used, _, by simp [n1], ⟨(S.app [O.lst []]).at_, (S.app [O.lst []]).ok, S.nd, S.nm, S.lo, Nat.le_succ_of_le S.sz⟩, ei, by omega, k1.trans (Kp.app _ _ _)⟩
  obtain ⟨its2, u2, h2, r2, S2, ne2, hu2, k2⟩ := step2
  -- what is left is put together
  obtain ⟨en3, h3, l3, its3, y5, y6, y9, q3, S3, ne3, k3⟩ := forL_end (chk := .none) (g := gNm 9) (b := T_last) (rngD 0 ds.length)
    (fun i en h' => ∃ (its : List (Tm × Nat)) (y5 y6 y9 : Option D), en = [some (.ref dr), some (.int style), some (.ref h.length), some (.int used), x4, y5, y6, x7, x8, y9] ∧ Stk 0 nf h.length its u2 (ds.length + 1 + i) h' ∧ its ≠ [] ∧ Kp h.length h h')
    [some (.ref dr), some (.int style), some (.ref h.length), some (.int used), x4, x5, x6, x7, x8, none] h2 ⟨its2, x5, x6, none, rfl, S2, ne2, k2⟩ (fun _ _ _ _ _ => trivial)
    (fun i x en h' hx ⟨its, y5, y6, y9, q1, S, ne, k⟩ => by
      obtain ⟨hi, rfl⟩ := range_get hx
      subst q1
      refine ⟨_, rfl, ?_⟩
      show (T_last [some (.ref dr), some (.int style), some (.ref h.length), some (.int used), x4, y5, y6, x7, x8, some (.int (0 + i))] h').sat _ _
      by_cases c2 : 2 ≤ its.length
      · obtain ⟨its0, p, l, rfl⟩ : ∃ its0 p l, its = its0 ++ [p, l] := by
          refine ⟨its.take (its.length - 2), its[its.length - 2], its[its.length - 1], ?_⟩
          have e : its.drop (its.length - 2) = [its[its.length - 2], its[its.length - 1]] := by
            rw [List.drop_eq_getElem_cons (by omega), List.drop_eq_getElem_cons (by omega), List.drop_eq_nil_of_le (by omega)]
            congr 3
            omega
          rw [← e, List.take_append_drop]
        have ge : (2 : Int) ≤ ((its0 ++ [p, l]).map itD).length := by simp; omega
        have t : (tV (vB geD (vCall lenD (aCons (vVar 2) (aNil))) (vC (.int 2)))) [some (.ref dr), some (.int style), some (.ref h.length), some (.int used), x4, y5, y6, x7, x8, some (.int (0 + (i : Int)))] h' = .ok true h' := by
          simp only [tV_ap, vB_ap, vVar_ap, vC_ap, vCall_ap, aCons_ap, aNil_ap, List.getElem?_cons_succ, List.getElem?_cons_zero, bind_ok, asB_bl, lenD_lst S.at_, geD_int, ge, decide_true]
        unfold T_last
        rw [sIf_ap, t]
        simp only [bindS_ok]
        rw [use_run S (by omega)]
        exact ⟨_, _, _, _, rfl, S.use [], by simp, k.trans (Kp.put _ _ _ _)⟩
      · have ge : ¬ (2 : Int) ≤ (its.map itD).length := by simp; omega
        have t : (tV (vB geD (vCall lenD (aCons (vVar 2) (aNil))) (vC (.int 2)))) [some (.ref dr), some (.int style), some (.ref h.length), some (.int used), x4, y5, y6, x7, x8, some (.int (0 + (i : Int)))] h' = .ok false h' := by
          simp only [tV_ap, vB_ap, vVar_ap, vC_ap, vCall_ap, aCons_ap, aNil_ap, List.getElem?_cons_succ, List.getElem?_cons_zero, bind_ok, asB_bl, lenD_lst S.at_, geD_int, ge, decide_false]
        unfold T_last
        rw [sIf_ap, t]
        simp only [bindS_ok, sNil_ap]
        exact ⟨its, y5, y6, _, rfl, ⟨S.at_, S.ok, S.nd, S.nm, S.lo, Nat.le_succ_of_le S.sz⟩, ne, k⟩)
  subst q3
  obtain ⟨p, its4, rfl⟩ := List.exists_cons_of_ne_nil ne3
  have op := S3.ok p (by simp)
  refine ⟨p.1, p.2, h3, ?_, op.1, ?_, (List.nodup_append.mp (show (leaves p.1 ++ lvs its4).Nodup from S3.nd)).1, fun s hs => ?_, op.2.2, Nat.le_of_lt op.2.1, fun i o ho => k3 i o (lt_get ho) ho⟩
  · have ed : h2[dr]? = some (.lst (ds.map .int)) := k2 dr _ hdr e
    have e9 : ixD (.ref h.length) (.int 0) h3 = .ok (itD p) h3 := ixD_lst S3.at_ (by have := atI_nat ((p :: its4).map itD) 0; simpa using this)
    unfold runF B_term
    rw [rngD_len] at *
    have e0 : (h ++ [O.lst []])[dr]? = some (.lst (ds.map .int)) := get_old e
    simp [iterD_ref e0, l1]
    simp at r2
    rw [r2]
    simp [lenD_lst ed, rng1K_nat (j := ds.length) _ (by omega), l3, e9]
    exact finish_tup _ _ _ _
  · have := S3.sz
    simp only [List.flatMap_cons, List.length_append, rngD_len] at this
    omega
  · obtain ⟨k, hk0, hk, es⟩ := S3.nm s (show s ∈ leaves p.1 ++ lvs its4 from List.mem_append_left _ hs)
    exact ⟨k, hk0, by omega, es⟩
end TA
end Mi

namespace Mi
open PySem PySem.Spec PyProof.Rows L2

/-! ### a term in the place of a use; names renamed -/
def Tm.put : Tm → List Nat → Tm → Tm
  | .nm s, w, o => if s = w then o else .nm s
  | .bd s b, w, o => .bd s (b.put w o)
  | .ap f a, w, o => .ap (f.put w o) (a.put w o)
def Tm.ren (f : List Nat → List Nat) : Tm → Tm
  | .nm s => .nm (f s)
  | .bd s b => .bd (f s) (b.ren f)
  | .ap g a => .ap (g.ren f) (a.ren f)
theorem leaves_put (w : List Nat) (o : Tm) : ∀ t : Tm, leaves (t.put w o) = (leaves t).flatMap fun s => if s = w then leaves o else [s]
  | .nm s => by by_cases e : s = w <;> simp [Tm.put, leaves, e]
  | .bd s b => by simp [Tm.put, leaves, leaves_put w o b]
  | .ap f a => by simp [Tm.put, leaves, leaves_put w o f, leaves_put w o a]
theorem mem_leaves_put {w x : List Nat} {o t : Tm} (h : x ∈ leaves (t.put w o)) : (x ∈ leaves t ∧ x ≠ w) ∨ (w ∈ leaves t ∧ x ∈ leaves o) := by
  rw [leaves_put] at h
  obtain ⟨s, hs, hx⟩ := List.mem_flatMap.mp h
  by_cases e : s = w
  · subst e; rw [if_pos rfl] at hx; exact .inr ⟨hs, hx⟩
  · rw [if_neg e] at hx
    have : x = s := by simpa using hx
    subst this
    exact .inl ⟨hs, e⟩
theorem put_wf {w : List Nat} {o : Tm} (wo : WF o) : ∀ {t : Tm}, WF t → w ∉ bnds t → (∀ s ∈ leaves t, s ≠ w → s ∉ leaves o) → WF (t.put w o) ∧ fr (t.put w o) = (fr t).flatMap fun s => if s = w then fr o else [s]
  | .nm s, _, _, _ => by
    by_cases e : s = w
    · simp [Tm.put, fr, e, wo]
    · simp [Tm.put, fr, e]; exact trivial
  | .bd s b, wt, hw, hd => by
    rw [bnds_bd] at hw
    have sw : s ≠ w := fun z => hw (by rw [z]; simp)
    obtain ⟨h1, h2⟩ := put_wf wo wt.2 (fun z => hw (List.mem_cons_of_mem _ z)) (fun x hx => hd x hx)
    have so : s ∉ fr o := fun z => hd s (fr_sub (t := b) wt.1) sw (fr_sub z)
    refine ⟨⟨?_, h1⟩, ?_⟩
    · show s ∈ fr (b.put w o)
      rw [h2]
      exact List.mem_flatMap.mpr ⟨s, wt.1, by rw [if_neg sw]; simp⟩
    · show (fr (b.put w o)).filter _ = ((fr b).filter _).flatMap _
      rw [h2]
      generalize fr b = l
      induction l with
      | nil => rfl
      | cons x l ih =>
        rw [List.flatMap_cons, List.filter_append, ih]
        by_cases e : x = w
        · subst e
          rw [if_pos rfl, List.filter_cons_of_pos (by simpa using fun z : x = s => sw z.symm), List.flatMap_cons, if_pos rfl]
          congr 1
          exact List.filter_eq_self.mpr fun y hy => by
            have : y ≠ s := fun z => so (by rw [← z]; exact hy)
            simpa using this
        · rw [if_neg e]
          by_cases e2 : x = s
          · subst e2
            simp
          · rw [List.filter_cons_of_pos (by simpa using e2), List.filter_cons_of_pos (by simpa using e2), List.flatMap_cons, if_neg e]
            rfl
  | .ap f a, wt, hw, hd => by
    rw [bnds_ap, List.mem_append, not_or] at hw
    obtain ⟨h1, h2⟩ := put_wf wo wt.1 hw.1 (fun x hx => hd x (List.mem_append_left _ hx))
    obtain ⟨h3, h4⟩ := put_wf wo wt.2.1 hw.2 (fun x hx => hd x (List.mem_append_right _ hx))
    refine ⟨⟨h1, h3, fun x hf ha => ?_⟩, by simp [Tm.put, fr, h2, h4]⟩
    rcases mem_leaves_put hf with ⟨p1, p2⟩ | ⟨p1, p2⟩
    · rcases mem_leaves_put ha with ⟨q1, q2⟩ | ⟨q1, q2⟩
      · exact wt.2.2 x p1 q1
      · exact hd x (List.mem_append_left _ p1) p2 q2
    · rcases mem_leaves_put ha with ⟨q1, q2⟩ | ⟨q1, q2⟩
      · exact hd x (List.mem_append_right _ q1) q2 p2
      · exact wt.2.2 w p1 q1
theorem put_out {w : List Nat} {o : Tm} : ∀ {t : Tm}, w ∉ leaves t → t.put w o = t
  | .nm s, h => by
    have : s ≠ w := fun z => h (by rw [z]; simp [leaves])
    simp [Tm.put, this]
  | .bd s b, h => by rw [Tm.put, put_out (t := b) h]
  | .ap f a, h => by
    rw [leaves, List.mem_append, not_or] at h
    rw [Tm.put, put_out h.1, put_out h.2]
/-- the number of nodes, of parts -/
theorem nodes_put {w : List Nat} {o : Tm} : ∀ {t : Tm}, WF t → w ∈ leaves t → (t.put w o).nodes = t.nodes + o.nodes
  | .nm s, _, h => by
    have : s = w := (List.mem_singleton.mp (show w ∈ [s] from h)).symm
    simp [Tm.put, this, Tm.nodes]
  | .bd s b, wt, h => by simp only [Tm.put, Tm.nodes, nodes_put wt.2 (show w ∈ leaves b from h)]; omega
  | .ap f a, wt, h => by
    rcases List.mem_append.mp (show w ∈ leaves f ++ leaves a from h) with q | q
    · simp only [Tm.put, Tm.nodes, nodes_put wt.1 q, put_out (wt.2.2 w q)]; omega
    · have : w ∉ leaves f := fun z => wt.2.2 w z q
      simp only [Tm.put, Tm.nodes, nodes_put wt.2.1 q, put_out this]; omega
theorem sub_put {w : List Nat} {o : Tm} : ∀ {t : Tm}, WF t → (t.put w o).sub.length ≤ t.sub.length + o.sub.length
  | .nm s, _ => by
    unfold Tm.put
    split
    · simp [Tm.sub]
    · simp [Tm.sub]
  | .bd s b, wt => by have := sub_put (w := w) (o := o) wt.2; simp only [Tm.put, Tm.sub, List.length_cons]; omega
  | .ap f a, wt => by
    by_cases q : w ∈ leaves f
    · have h1 := sub_put (w := w) (o := o) wt.1
      rw [Tm.put, put_out (wt.2.2 w q)]
      simp only [Tm.sub, List.length_cons, List.length_append]; omega
    · have h1 := sub_put (w := w) (o := o) wt.2.1
      rw [Tm.put, put_out q]
      simp only [Tm.sub, List.length_cons, List.length_append]; omega
/-! ### renamed -/
theorem leaves_ren (f : List Nat → List Nat) : ∀ t : Tm, leaves (t.ren f) = (leaves t).map f
  | .nm s => rfl
  | .bd s b => leaves_ren f b
  | .ap g a => by simp [Tm.ren, leaves, leaves_ren f g, leaves_ren f a]
theorem bnds_ren (f : List Nat → List Nat) : ∀ t : Tm, bnds (t.ren f) = (bnds t).map f
  | .nm s => by simp [Tm.ren, bnds, Tm.sub, isBd, Tm.head]
  | .bd s b => by rw [Tm.ren, bnds_bd, bnds_bd, bnds_ren f b]; rfl
  | .ap g a => by rw [Tm.ren, bnds_ap, bnds_ap, bnds_ren f g, bnds_ren f a, List.map_append]
theorem sub_ren (f : List Nat → List Nat) : ∀ t : Tm, (t.ren f).sub.length = t.sub.length
  | .nm s => rfl
  | .bd s b => by simp [Tm.ren, Tm.sub, sub_ren f b]
  | .ap g a => by simp [Tm.ren, Tm.sub, sub_ren f g, sub_ren f a]
theorem high_ren (f : List Nat → List Nat) : ∀ t : Tm, (t.ren f).high = t.high
  | .nm s => rfl
  | .bd s b => by simp [Tm.ren, Tm.high, high_ren f b]
  | .ap g a => by simp [Tm.ren, Tm.high, high_ren f g, high_ren f a]
theorem nodes_ren (f : List Nat → List Nat) : ∀ t : Tm, (t.ren f).nodes = t.nodes
  | .nm s => rfl
  | .bd s b => by simp [Tm.ren, Tm.nodes, nodes_ren f b]
  | .ap g a => by simp [Tm.ren, Tm.nodes, nodes_ren f g, nodes_ren f a]
theorem ren_wf {f : List Nat → List Nat} : ∀ {t : Tm}, WF t → (∀ x ∈ leaves t, ∀ y ∈ leaves t, f x = f y → x = y) → WF (t.ren f) ∧ fr (t.ren f) = (fr t).map f
  | .nm s, _, _ => ⟨trivial, rfl⟩
  | .bd s b, wt, inj => by
    obtain ⟨h1, h2⟩ := ren_wf wt.2 inj
    have hs : s ∈ leaves b := fr_sub wt.1
    refine ⟨⟨?_, h1⟩, ?_⟩
    · show f s ∈ fr (b.ren f)
      rw [h2]; exact List.mem_map_of_mem wt.1
    · show (fr (b.ren f)).filter _ = ((fr b).filter _).map f
      rw [h2, List.filter_map]
      congr 1
      refine List.filter_congr fun x hx => ?_
      have : (f x = f s) ↔ x = s := ⟨inj x (fr_sub (t := b) hx) s hs, fun z => by rw [z]⟩
      simp [this]
  | .ap g a, wt, inj => by
    obtain ⟨h1, h2⟩ := ren_wf wt.1 fun x hx y hy => inj x (List.mem_append_left _ hx) y (List.mem_append_left _ hy)
    obtain ⟨h3, h4⟩ := ren_wf wt.2.1 fun x hx y hy => inj x (List.mem_append_right _ hx) y (List.mem_append_right _ hy)
    refine ⟨⟨h1, h3, fun x hf ha => ?_⟩, by simp [Tm.ren, fr, h2, h4]⟩
    rw [leaves_ren] at hf ha
    obtain ⟨u, hu, rfl⟩ := List.mem_map.mp hf
    obtain ⟨v, hv, e⟩ := List.mem_map.mp ha
    have := inj v (List.mem_append_right _ hv) u (List.mem_append_left _ hu) e
    subst this
    exact wt.2.2 v hu hv
theorem ren_id {f : List Nat → List Nat} : ∀ {t : Tm}, (∀ x ∈ leaves t, f x = x) → (∀ x ∈ bnds t, f x = x) → t.ren f = t
  | .nm s, h, _ => by rw [Tm.ren, h s (by simp [leaves])]
  | .bd s b, h, h2 => by
    rw [bnds_bd] at h2
    rw [Tm.ren, h2 s (by simp), ren_id (t := b) h fun x hx => h2 x (List.mem_cons_of_mem _ hx)]
  | .ap g a, h, h2 => by
    rw [bnds_ap] at h2
    rw [Tm.ren, ren_id (t := g) (fun x hx => h x (List.mem_append_left _ hx)) fun x hx => h2 x (List.mem_append_left _ hx), ren_id (t := a) (fun x hx => h x (List.mem_append_right _ hx)) fun x hx => h2 x (List.mem_append_right _ hx)]
theorem ren_ren (f g : List Nat → List Nat) : ∀ t : Tm, (t.ren f).ren g = t.ren fun x => g (f x)
  | .nm s => rfl
  | .bd s b => by simp [Tm.ren, ren_ren f g b]
  | .ap h a => by simp [Tm.ren, ren_ren f g h, ren_ren f g a]
theorem ren_congr {f g : List Nat → List Nat} : ∀ {t : Tm}, (∀ x ∈ leaves t, f x = g x) → (∀ x ∈ bnds t, f x = g x) → t.ren f = t.ren g
  | .nm s, h, _ => by rw [Tm.ren, Tm.ren, h s (by simp [leaves])]
  | .bd s b, h, h2 => by
    rw [bnds_bd] at h2
    rw [Tm.ren, Tm.ren, h2 s (by simp), ren_congr (t := b) h fun x hx => h2 x (List.mem_cons_of_mem _ hx)]
  | .ap k a, h, h2 => by
    rw [bnds_ap] at h2
    rw [Tm.ren, Tm.ren, ren_congr (t := k) (fun x hx => h x (List.mem_append_left _ hx)) fun x hx => h2 x (List.mem_append_left _ hx), ren_congr (t := a) (fun x hx => h x (List.mem_append_right _ hx)) fun x hx => h2 x (List.mem_append_right _ hx)]
theorem fr_bnds {t : Tm} (w : WF t) {s : List Nat} (h : s ∈ fr t) : s ∉ bnds t := by
  rw [fr_leaves w] at h
  simpa using (List.mem_filter.mp h).2
end Mi

namespace Mi
open PySem PySem.Spec PyProof.Rows L2

/-! ### the functions of terms, further -/
def B_uses (cu : List D → Hst → Res D) : Sm :=
    sSeq (sIf (tV (vB eqD (vB ixD (vVar 0) (vC (.int 0))) (vC (.str [110, 97, 109, 101])))) (sRet (vLst (aCons (vB ixD (vVar 0) (vC (.int 1))) (aNil)))) (sNil)) <|
    sSeq (sIf (tV (vB eqD (vB ixD (vVar 0) (vC (.int 0))) (vC (.str [98, 105, 110, 100])))) (sRet (vF 1 (cu) (aCons (vB ixD (vVar 0) (vC (.int 2))) (aNil)))) (sNil)) <|
    sRet (vB addD (vF 1 (cu) (aCons (vB ixD (vVar 0) (vC (.int 1))) (aNil))) (vF 1 (cu) (aCons (vB ixD (vVar 0) (vC (.int 2))) (aNil))))
theorem leaves_len (t : Tm) : (leaves t).length ≤ t.sub.length := by
  induction t with
  | nm s => simp [leaves, Tm.sub]
  | bd s b ih => simp only [leaves, Tm.sub, List.length_cons]; omega
  | ap f a ih1 ih2 => simp only [leaves, Tm.sub, List.length_cons, List.length_append]; omega
theorem uses_run (cu : List D → Hst → Res D) (t : Tm) (h : Hst) (hl : t.sub.length ≤ 1000000) (hc : ∀ k ∈ t.kids, ∀ h, cu [k.d] h = .ok (.ref h.length) (h ++ [.lst ((leaves k).map .str)])) :
    runF 1 (B_uses cu) [t.d] h = .ok (.ref h.length) (h ++ [.lst ((leaves t).map .str)]) := by
  unfold runF B_uses
  cases t with
  | nm s => simp [Tm.d]; exact finish_new h (.lst _) [] (noRefs_str [s])
  | bd s b =>
    have h1 := hc b (by simp [Tm.kids])
    simp [Tm.d, h1]
    exact finish_new h (.lst _) [] (noRefs_str _)
  | ap f a =>
    have h1 := hc f (by simp [Tm.kids])
    have h2 := hc a (by simp [Tm.kids])
    simp [Tm.sub] at hl
    have l1 := leaves_len f
    have l2 := leaves_len a
    simp [Tm.d, h1, h2]
    rw [addD_ref (xs := (leaves f).map D.str) (ys := (leaves a).map D.str) (by rw [get_app]; rfl) (by rw [get_app2]; rfl) (by simp; omega)]
    simp
    have e : (leaves (Tm.ap f a)).map D.str = (leaves f).map .str ++ (leaves a).map .str := by simp [leaves]
    have n := noRefs_str (leaves (Tm.ap f a))
    rw [e] at n ⊢
    exact finish_newk h [_, _, .lst _] 2 _ rfl n
def B_repl (cr : List D → Hst → Res D) : Sm :=
    sSeq (sIf (tV (vB eqD (vB ixD (vVar 0) (vC (.int 0))) (vC (.str [110, 97, 109, 101])))) (sRet (vIf (tV (vB eqD (vB ixD (vVar 0) (vC (.int 1))) (vVar 1))) (vVar 2) (vVar 0))) (sNil)) <|
    sSeq (sIf (tV (vB eqD (vB ixD (vVar 0) (vC (.int 0))) (vC (.str [98, 105, 110, 100])))) (sRet (vTup (aCons (vC (.str [98, 105, 110, 100])) (aCons (vB ixD (vVar 0) (vC (.int 1))) (aCons (vF 3 (cr) (aCons (vB ixD (vVar 0) (vC (.int 2))) (aCons (vVar 1) (aCons (vVar 2) (aNil))))) (aNil)))))) (sNil)) <|
    sRet (vTup (aCons (vC (.str [97, 112, 112, 108, 121])) (aCons (vF 3 (cr) (aCons (vB ixD (vVar 0) (vC (.int 1))) (aCons (vVar 1) (aCons (vVar 2) (aNil))))) (aCons (vF 3 (cr) (aCons (vB ixD (vVar 0) (vC (.int 2))) (aCons (vVar 1) (aCons (vVar 2) (aNil))))) (aNil)))))
theorem repl_run (cr : List D → Hst → Res D) (t o : Tm) (w : List Nat) (h : Hst) (hc : ∀ k ∈ t.kids, cr [k.d, .str w, o.d] h = .ok (k.put w o).d h) : runF 3 (B_repl cr) [t.d, .str w, o.d] h = .ok (t.put w o).d h := by
  unfold runF B_repl
  cases t with
  | nm s => by_cases e : s = w <;> simp [Tm.d, Tm.put, e]
  | bd s b =>
    have := hc b (by simp [Tm.kids])
    simp [Tm.d, Tm.put, this]
  | ap f a =>
    have h1 := hc f (by simp [Tm.kids])
    have h2 := hc a (by simp [Tm.kids])
    simp [Tm.d, Tm.put, h1, h2]
def B_put (cr : List D → Hst → Res D) : Sm :=
    sSeq (sIf (tV (vB eqD (vB ixD (vVar 0) (vC (.int 0))) (vC (.str [110, 97, 109, 101])))) (sSeq (sIf (tV (vB eqD (vB ixD (vVar 0) (vC (.int 1))) (vVar 1))) (sRet (vVar 2)) (sNil)) <|
    sRet (vVar 0)) (sNil)) <|
    sSeq (sIf (tV (vB eqD (vB ixD (vVar 0) (vC (.int 0))) (vC (.str [98, 105, 110, 100])))) (sRet (vTup (aCons (vC (.str [98, 105, 110, 100])) (aCons (vB ixD (vVar 0) (vC (.int 1))) (aCons (vF 3 (cr) (aCons (vB ixD (vVar 0) (vC (.int 2))) (aCons (vVar 1) (aCons (vVar 2) (aNil))))) (aNil)))))) (sNil)) <|
    sRet (vTup (aCons (vC (.str [97, 112, 112, 108, 121])) (aCons (vF 3 (cr) (aCons (vB ixD (vVar 0) (vC (.int 1))) (aCons (vVar 1) (aCons (vVar 2) (aNil))))) (aCons (vF 3 (cr) (aCons (vB ixD (vVar 0) (vC (.int 2))) (aCons (vVar 1) (aCons (vVar 2) (aNil))))) (aNil)))))
theorem put_run (cr : List D → Hst → Res D) (t o : Tm) (w : List Nat) (h : Hst) (hc : ∀ k ∈ t.kids, cr [k.d, .str w, o.d] h = .ok (k.put w o).d h) : runF 3 (B_put cr) [t.d, .str w, o.d] h = .ok (t.put w o).d h := by
  unfold runF B_put
  cases t with
  | nm s => by_cases e : s = w <;> simp [Tm.d, Tm.put, e]
  | bd s b =>
    have := hc b (by simp [Tm.kids])
    simp [Tm.d, Tm.put, this]
  | ap f a =>
    have h1 := hc f (by simp [Tm.kids])
    have h2 := hc a (by simp [Tm.kids])
    simp [Tm.d, Tm.put, h1, h2]
/-- a recursion over a term: what holds of the parts holds of it -/
theorem tm_rec {P : Tm → Nat → Prop} (step : ∀ (t : Tm) (n : Nat), (∀ k ∈ t.kids, P k n) → P t (n + 1)) : ∀ (t : Tm) (n : Nat), t.high ≤ n → P t n
  | .nm s, n + 1, _ => step _ _ (by simp [Tm.kids])
  | .bd s b, n + 1, hn => step _ _ fun k hk => by
    have : k = b := by simpa [Tm.kids] using hk
    subst this
    exact tm_rec step k n (by simp only [Tm.high] at hn; omega)
  | .ap f a, n + 1, hn => step _ _ fun k hk => by
    simp only [Tm.high] at hn
    have : k = f ∨ k = a := by simpa [Tm.kids] using hk
    rcases this with rfl | rfl
    · exact tm_rec step k n (by omega)
    · exact tm_rec step k n (by omega)
  | .nm s, 0, hn => absurd hn (by simp [Tm.high])
  | .bd s b, 0, hn => absurd hn (by simp [Tm.high])
  | .ap f a, 0, hn => absurd hn (by simp [Tm.high])
end Mi

namespace Mi
open PySem PySem.Spec PyProof.Rows L2

/-- what stood stands -/
def Gw (h h' : Hst) : Prop := ∀ (i : Nat) (o : O), h[i]? = some o → h'[i]? = some o
theorem Gw.refl (h : Hst) : Gw h h := fun _ _ e => e
theorem Gw.trans {a b c : Hst} (x : Gw a b) (y : Gw b c) : Gw a c := fun i o e => y i o (x i o e)
theorem Gw.app (h l : Hst) : Gw h (h ++ l) := fun _ _ e => get_old e
theorem finish_keep (h l : Hst) (d : D) (f : d.noRef = false) (nr : ∀ k, d ≠ .ref k) : finish h d (h ++ l) = .ok d (h ++ l) := by
  unfold finish
  split
  · rfl
  · rw [if_pos (by simp)]
    cases d <;> first | (simp [D.noRef] at f; done) | exact absurd rfl (nr _) | exact if_neg (by rw [f]; simp)
theorem cutL_take {α : Type} (xs : List α) (k : Nat) : cutL xs none (some (k : Int)) = xs.take k := by
  unfold cutL
  rw [HT.sIx_none, HT.sIx_nat, List.drop_zero, Nat.sub_zero]
  by_cases h : k ≤ xs.length
  · rw [Nat.min_eq_left h]
  · rw [Nat.min_eq_right (by omega), List.take_length, List.take_of_length_le (by omega)]
theorem cutL_drop {α : Type} (xs : List α) (k : Nat) : cutL xs (some (k : Int)) none = xs.drop k := by
  unfold cutL
  rw [HT.sIx_none, HT.sIx_nat]
  by_cases h : k ≤ xs.length
  · rw [Nat.min_eq_left h, List.take_of_length_le (by simp)]
  · rw [Nat.min_eq_right (by omega), List.drop_length, List.drop_eq_nil_of_le (by omega), List.take_nil]
theorem firstIx_str {w : List Nat} : ∀ {ss : List (List Nat)}, w ∈ ss → firstIx (.str w) (ss.map .str) = some (ss.idxOf w)
  | s :: ss, h => by
    rw [List.map_cons, firstIx]
    by_cases e : s = w
    · subst e
      rw [if_pos (by simp [eqF])]
      simp [List.idxOf_cons]
    · rw [if_neg (by simp [eqF, e])]
      have : w ∈ ss := by
        rcases List.mem_cons.mp h with q | q
        · exact absurd q.symm e
        · exact q
      rw [firstIx_str this, List.idxOf_cons]
      have e2 : (s == w) = false := by simpa using e
      rw [e2]
      rfl
theorem indexM_str {n : Nat} {ss : List (List Nat)} {w : List Nat} {h : Hst} (e : h[n]? = some (.lst (ss.map .str))) (hw : w ∈ ss) : indexM (.ref n) [.str w] h = .ok (.int (ss.idxOf w)) h := by
  unfold indexM
  dsimp only
  rw [e]
  dsimp only
  rw [if_pos ⟨rfl, allFlat_str ss⟩, firstIx_str hw]
/-- one item of a list without repetition, replaced by a row -/
theorem flat_one {α : Type} [BEq α] [LawfulBEq α] [DecidableEq α] {w : α} {r : List α} : ∀ {l : List α}, l.Nodup → w ∈ l → (l.flatMap fun s => if s = w then r else [s]) = l.take (l.idxOf w) ++ r ++ l.drop (l.idxOf w + 1)
  | x :: l, nd, h => by
    have nd2 := List.nodup_cons.mp nd
    rw [List.flatMap_cons, List.idxOf_cons]
    by_cases e : x = w
    · subst e
      have rest : ∀ (m : List α), x ∉ m → (m.flatMap fun s => if s = x then r else [s]) = m := fun m => by
        induction m with
        | nil => intro _; rfl
        | cons y m ih =>
          intro hm
          rw [List.mem_cons, not_or] at hm
          rw [List.flatMap_cons, if_neg (fun z => hm.1 z.symm), ih hm.2]
          rfl
      rw [if_pos rfl, rest l nd2.1]
      simp
    · have e2 : (x == w) = false := by simpa using e
      have hl : w ∈ l := by
        rcases List.mem_cons.mp h with q | q
        · exact absurd q.symm e
        · exact q
      rw [if_neg e, e2, flat_one nd2.2 hl]
      simp
theorem fr_nodup {t : Tm} (w : WF t) (nd : (leaves t).Nodup) : (fr t).Nodup := by
  rw [fr_leaves w]
  exact nd.filter _
theorem Lk.pair (h : Hst) (s : List Nat) (t : Tm) {n : Nat} (hn : t.high ≤ n) : Lk h (n + 2) (.tup [.str s, t.d]) (.tup [.str s, t.d]) :=
  Or.inr (Or.inr (Or.inr (Or.inl ⟨_, _, rfl, rfl, rfl, by simp, fun i dx dy e1 e2 => by
    cases (Option.some.inj (e1.symm.trans e2))
    match i, e1 with
    | 0, e1 => cases (Option.some.inj e1); exact .str _ _ _
    | 1, e1 => cases (Option.some.inj e1); exact Lk.tm h t n hn⟩)))
theorem Lk.mono {h : Hst} : ∀ {n m : Nat} {x y : D}, n ≤ m → Lk h n x y → Lk h m x y
  | 0, _, _, _, _, k => k.elim
  | n + 1, m + 1, x, y, hm, k => by
    rcases k with k | k | k | ⟨xs, ys, a, b, c, d, k⟩ | ⟨p, q, xs, ys, a, b, c, d, e, f, k⟩
    · exact Or.inl k
    · exact Or.inr (Or.inl k)
    · exact Or.inr (Or.inr (Or.inl k))
    · exact Or.inr (Or.inr (Or.inr (Or.inl ⟨xs, ys, a, b, c, d, fun i dx dy e1 e2 => Lk.mono (by omega) (k i dx dy e1 e2)⟩)))
    · exact Or.inr (Or.inr (Or.inr (Or.inr ⟨p, q, xs, ys, a, b, c, d, e, f, fun i dx dy e1 e2 => Lk.mono (by omega) (k i dx dy e1 e2)⟩)))
  | n + 1, 0, _, _, hm, _ => absurd hm (by omega)
end Mi

namespace Mi
open PySem PySem.Spec PyProof.Rows L2

/-! ### names of a style -/
def preT (style : Int) : List Nat := ([[110], [118], [113, 55], [122, 122], [108, 111, 110, 103]].getD (style % 5).toNat [])
def nameT (style num : Int) : List Nat := if style % 5 = 3 then [122, 122] ++ decI (70 - num) else preT style ++ decI num
def T_nameT : Sm :=
    sSeq (sIf (tV (vB eqD (vB modD (vCall intC (aCons (vVar 1) (aNil))) (vC (.int 5))) (vC (.int 3)))) (sRet (vB addD (vC (.str [122, 122])) (vCall strC (aCons (vB subD (vC (.int 70)) (vVar 2)) (aNil))))) (sNil)) <|
    sRet (vB addD (vB ixD (vLst (aCons (vC (.str [110])) (aCons (vC (.str [118])) (aCons (vC (.str [113, 55])) (aCons (vC (.str [122, 122])) (aCons (vC (.str [108, 111, 110, 103])) (aNil))))))) (vB modD (vCall intC (aCons (vVar 1) (aNil))) (vC (.int 5)))) (vCall strC (aCons (vVar 2) (aNil))))
theorem pre_ok (style : Int) : ∃ s, atI [[110], [118], [113, 55], [122, 122], [108, 111, 110, 103]] (style % 5) = some s ∧ preT style = s ∧ s.length ≤ 4 := by
  obtain ⟨s, hs1, hs3⟩ := atI_ex (xs := [[110], [118], [113, 55], [122, 122], [108, 111, 110, 103]]) (i := style % 5) (Int.emod_nonneg _ (by decide)) (by have := Int.emod_lt_of_pos style (show (0 : Int) < 5 by decide); simpa using this)
  refine ⟨s, hs3, ?_, ?_⟩
  · have z := atI_nat [[110], [118], [113, 55], [122, 122], [108, 111, 110, 103]] (style % 5).toNat
    rw [Int.toNat_of_nonneg (Int.emod_nonneg _ (by decide)), hs3] at z
    unfold preT
    rw [List.getD_eq_getElem?_getD, ← z]
    rfl
  · simp only [List.mem_cons, List.not_mem_nil, or_false] at hs1
    rcases hs1 with rfl | rfl | rfl | rfl | rfl <;> simp
theorem nameT_run (a : Option D) (style num : Int) (h0 : 0 ≤ num) (h1 : num ≤ 69) (h : Hst) : finR h (T_nameT [a, some (.int style), some (.int num)] h) = .ok (.str (nameT style num)) h := by
  have hst : ∀ hh, strC [.int num] hh = .ok (.str (decI num)) hh := fun hh => strC_int hh (by omega)
  have hst2 : ∀ hh, strC [.int (70 - num)] hh = .ok (.str (decI (70 - num))) hh := fun hh => strC_int hh (by omega)
  have hl1 : (decI num).length ≤ 62 := decI_len (by omega)
  have hl2 : (decI (70 - num)).length ≤ 62 := decI_len (by omega)
  by_cases q : style % 5 = 3
  · have a : addD (.str [122, 122]) (.str (decI (70 - num))) h = .ok (.str ([122, 122] ++ decI (70 - num))) h := addD_str h (by simp; omega)
    simp [T_nameT, q, hst2, a, nameT]
  · have q2 : (style % 5 == 3) = false := by simpa using q
    obtain ⟨s, hs3, hp, ls⟩ := pre_ok style
    have at2 : ixD (.ref h.length) (.int (style % 5)) (h ++ [.lst [.str [110], .str [118], .str [113, 55], .str [122, 122], .str [108, 111, 110, 103]]]) = .ok (.str s) (h ++ [.lst [.str [110], .str [118], .str [113, 55], .str [122, 122], .str [108, 111, 110, 103]]]) := by
      refine ixD_lst (s := [[110], [118], [113, 55], [122, 122], [108, 111, 110, 103]].map D.str) (by rw [get_app]; rfl) ?_
      rw [atI_map, hs3]; rfl
    have a : ∀ hh, addD (.str s) (.str (decI num)) hh = .ok (.str (s ++ decI num)) hh := fun hh => addD_str hh (by omega)
    simp [T_nameT, q, q2, at2, hst, a, nameT, hp]
    exact finish_drop _ _ _ rfl
theorem nameT_inj {style a b : Int} (a0 : 0 ≤ a) (a1 : a ≤ 70) (b0 : 0 ≤ b) (b1 : b ≤ 70) (e : nameT style a = nameT style b) : a = b := by
  unfold nameT at e
  split at e
  · have e := List.append_cancel_left e
    obtain ⟨u, hu⟩ : ∃ u : Nat, 70 - a = (u : Int) := ⟨(70 - a).toNat, by omega⟩
    obtain ⟨v, hv⟩ : ∃ v : Nat, 70 - b = (v : Int) := ⟨(70 - b).toNat, by omega⟩
    rw [hu, hv] at e
    have := decI_inj e
    omega
  · have e := List.append_cancel_left e
    obtain ⟨u, hu⟩ : ∃ u : Nat, a = (u : Int) := ⟨a.toNat, by omega⟩
    obtain ⟨v, hv⟩ : ∃ v : Nat, b = (v : Int) := ⟨b.toNat, by omega⟩
    rw [hu, hv] at e
    have := decI_inj e
    omega
/-- the first sign tells the form -/
def c5 (r : Int) : Nat := if r = 0 then 110 else if r = 1 then 118 else if r = 2 then 113 else if r = 3 then 122 else 108
theorem nameT_head (style num : Int) : (nameT style num).head? = some (c5 (style % 5)) := by
  have h0 := Int.emod_nonneg style (show (5 : Int) ≠ 0 by decide)
  have h1 := Int.emod_lt_of_pos style (show (0 : Int) < 5 by decide)
  unfold nameT preT
  obtain h | h | h | h | h : style % 5 = 0 ∨ style % 5 = 1 ∨ style % 5 = 2 ∨ style % 5 = 3 ∨ style % 5 = 4 := by omega
  all_goals rw [h]; simp [c5]
theorem c5_inj {a b : Int} (a0 : 0 ≤ a) (a1 : a < 5) (b0 : 0 ≤ b) (b1 : b < 5) (e : c5 a = c5 b) : a = b := by
  obtain h | h | h | h | h : a = 0 ∨ a = 1 ∨ a = 2 ∨ a = 3 ∨ a = 4 := by omega
  all_goals
    obtain g | g | g | g | g : b = 0 ∨ b = 1 ∨ b = 2 ∨ b = 3 ∨ b = 4 := by omega
    all_goals subst h g <;> first | rfl | (simp [c5] at e)
theorem nameT_ne {s s' a b : Int} (h : s % 5 ≠ s' % 5) : nameT s a ≠ nameT s' b := fun e => by
  have h1 := nameT_head s a
  rw [e, nameT_head] at h1
  have h2 := c5_inj (Int.emod_nonneg s' (by decide)) (Int.emod_lt_of_pos s' (by decide)) (Int.emod_nonneg s (by decide)) (Int.emod_lt_of_pos s (by decide)) (Option.some.inj h1)
  exact h h2.symm
theorem c5_in (r : Int) : c5 r = 110 ∨ c5 r = 118 ∨ c5 r = 113 ∨ c5 r = 122 ∨ c5 r = 108 := by
  unfold c5
  repeat (first | (split; · simp) | simp)
/-- what does not begin so is none of them -/
theorem nameT_not {style num : Int} {w : List Nat} (h : w.head? ≠ some 110 ∧ w.head? ≠ some 118 ∧ w.head? ≠ some 113 ∧ w.head? ≠ some 122 ∧ w.head? ≠ some 108) : nameT style num ≠ w := fun e => by
  have h1 := nameT_head style num
  rw [e] at h1
  rcases c5_in (style % 5) with q | q | q | q | q <;> rw [q] at h1
  · exact h.1 h1
  · exact h.2.1 h1
  · exact h.2.2.1 h1
  · exact h.2.2.2.1 h1
  · exact h.2.2.2.2 h1
/-- the number by steps -/
def numG (p q r : Int) (style : Int) (k : Nat) : Int := ((k : Int) * (1 + style / 5 % p) + style / q) % r
theorem numG_inj {p q r style : Int} (hp : 0 < p) (hr : ∀ k m : Nat, 0 < k → (k : Int) < r → 0 < m → (m : Int) ≤ p → ¬ r ∣ ((k * m : Nat) : Int)) {i j : Nat} (hij : i < j) (hj : (j : Int) - i < r) : numG p q r style i ≠ numG p q r style j := by
  intro e
  unfold numG at e
  have d : r ∣ ((j : Int) * (1 + style / 5 % p) + style / q) - ((i : Int) * (1 + style / 5 % p) + style / q) := Int.dvd_of_emod_eq_zero (Int.emod_eq_emod_iff_emod_sub_eq_zero.mp e.symm)
  have e2 : ((j : Int) * (1 + style / 5 % p) + style / q) - ((i : Int) * (1 + style / 5 % p) + style / q) = ((j : Int) - i) * (1 + style / 5 % p) := by rw [Int.sub_mul]; omega
  rw [e2] at d
  have b0 := Int.emod_nonneg (style / 5) (show p ≠ 0 by omega)
  have b1 := Int.emod_lt_of_pos (style / 5) hp
  obtain ⟨m, hm, hm0, hm1⟩ : ∃ m : Nat, 1 + style / 5 % p = (m : Int) ∧ 0 < m ∧ (m : Int) ≤ p := ⟨(1 + style / 5 % p).toNat, by omega, by omega, by omega⟩
  obtain ⟨k, hk, hk0⟩ : ∃ k : Nat, (j : Int) - i = (k : Int) ∧ 0 < k := ⟨j - i, by omega, by omega⟩
  rw [hm, hk] at d
  refine hr k m hk0 (by omega) hm0 hm1 ?_
  rw [Int.natCast_mul]
  exact d
end Mi

namespace Mi
open PySem PySem.Spec PyProof.Rows L2

/-! ### dicts of texts -/
def lk : List (List Nat × List Nat) → List Nat → Option (List Nat)
  | [], _ => none
  | p :: l, s => if p.1 = s then some p.2 else lk l s
def kd (p : List Nat × List Nat) : D × D := (.str p.1, .str p.2)
/-- what stands for a name -/
def sub1 (l : List (List Nat × List Nat)) (s : List Nat) : List Nat := (lk l s).getD s
theorem lookD_kd : ∀ (l : List (List Nat × List Nat)) (s : List Nat), lookD (l.map kd) (.str s) = (lk l s).map .str
  | [], _ => rfl
  | p :: l, s => by
    rw [List.map_cons, lookD, lk]
    by_cases e : p.1 = s
    · subst e; rw [if_pos (show (kd p).1 = D.str p.1 from rfl), if_pos rfl]; rfl
    · rw [if_neg (fun z => e (by simpa [kd] using z)), if_neg e, lookD_kd l s]
theorem dGet_kd (l : List (List Nat × List Nat)) (s : List Nat) : dGet (l.map kd) false (.str s) = some ((lk l s).map .str) := by
  unfold dGet
  dsimp only
  rw [if_pos (show (keyD (.str s)).isSome = true from rfl), lookD_kd]
section
variable {n : Nat} {l : List (List Nat × List Nat)} {h : Hst} {s w : List Nat}
theorem in_kd (s : List Nat) (e : h[n]? = some (.dic false (l.map kd))) : inD (.str s) (.ref n) h = .ok (.bl (lk l s).isSome) h := by
  unfold inD inB
  dsimp only
  rw [e]
  dsimp only
  rw [dGet_kd]
  cases lk l s <;> rfl
theorem nin_kd (s : List Nat) (e : h[n]? = some (.dic false (l.map kd))) : ninD (.str s) (.ref n) h = .ok (.bl (!(lk l s).isSome)) h := by
  unfold ninD inB
  dsimp only
  rw [e]
  dsimp only
  rw [dGet_kd]
  cases lk l s <;> rfl
theorem ix_kd (e : h[n]? = some (.dic false (l.map kd))) (q : lk l s = some w) : ixD (.ref n) (.str s) h = .ok (.str w) h := by
  unfold ixD
  dsimp only
  rw [e]
  dsimp only
  rw [dGet_kd, q]
  rfl
theorem ix_kdF (e : h[n]? = some (.fdc false (l.map kd))) (q : lk l s = some w) : ixD (.ref n) (.str s) h = .ok (.str w) h := by
  unfold ixD
  dsimp only
  rw [e]
  dsimp only
  rw [dGet_kd, q]
  rfl
theorem get_kd (s : List Nat) (e : h[n]? = some (.dic false (l.map kd))) : getM (.ref n) [.str s, .str s] h = .ok (.str (sub1 l s)) h := by
  unfold getM
  dsimp only
  rw [e]
  dsimp only
  rw [dGet_kd]
  unfold sub1
  cases lk l s <;> rfl
theorem any_kd : ∀ {l : List (List Nat × List Nat)} {s : List Nat}, lk l s = none → ((l.map kd).any fun p => decide (p.1 = D.str s)) = false
  | [], _, _ => rfl
  | p :: l, s, q => by
    rw [lk] at q
    split at q
    · cases q
    · rename_i e
      rw [List.map_cons, List.any_cons, any_kd q]
      simp [kd, e]
theorem put_kd (q : lk l s = none) : putD (l.map kd) (.str s) (.str w) = (l ++ [(s, w)]).map kd := by
  unfold putD
  rw [any_kd q]
  simp [kd]
theorem set_kd (e : h[n]? = some (.dic false (l.map kd))) (q : lk l s = none) (hl : l.length < 16777216) : setD (.ref n) (.str s) (.str w) h = some (h.set n (.dic false ((l ++ [(s, w)]).map kd))) := by
  unfold setD
  dsimp only
  rw [e]
  dsimp only
  unfold dPut
  dsimp only
  rw [if_pos ⟨rfl, by simpa using hl⟩, put_kd q]
theorem tyD_dic {tk : Bool} {kvs : List (D × D)} (e : h[n]? = some (.dic tk kvs)) : tyD (.ref n) h = some .dict := by simp [tyD, e]
theorem lenD_kd (e : h[n]? = some (.dic false (l.map kd))) : lenD [.ref n] h = .ok (.int l.length) h := by simp [lenD, e]
end
theorem lk_app (a b : List (List Nat × List Nat)) (s : List Nat) : lk (a ++ b) s = (lk a s).or (lk b s) := by
  induction a with
  | nil => rfl
  | cons p a ih =>
    rw [List.cons_append, lk, lk]
    split
    · rfl
    · exact ih
theorem lk_none {l : List (List Nat × List Nat)} {s : List Nat} : lk l s = none ↔ ∀ p ∈ l, p.1 ≠ s := by
  induction l with
  | nil => simp [lk]
  | cons p l ih =>
    rw [lk]
    split
    · rename_i e; simp [e]
    · rename_i e; rw [ih]; simp [e]
theorem lk_some {l : List (List Nat × List Nat)} {p : List Nat × List Nat} (h : p ∈ l) : ∃ w, lk l p.1 = some w := by
  cases e : lk l p.1 with
  | none => exact absurd rfl (lk_none.mp e p h)
  | some w => exact ⟨w, rfl⟩
theorem lk_mem {l : List (List Nat × List Nat)} {s w : List Nat} (h : lk l s = some w) : (s, w) ∈ l := by
  induction l with
  | nil => cases h
  | cons p l ih =>
    rw [lk] at h
    split at h
    · rename_i e; cases h; subst e; exact List.mem_cons_self
    · exact List.mem_cons_of_mem _ (ih h)
/-- rows put together -/
theorem lk_zip_none {ks vs : List (List Nat)} {s : List Nat} (h : s ∉ ks) : lk (ks.zip vs) s = none :=
  lk_none.mpr fun p hp e => h (by rw [← e]; exact (List.of_mem_zip (a := p.1) (b := p.2) hp).1)
theorem lk_zip_at : ∀ {ks vs : List (List Nat)} {s : List Nat}, ks.length = vs.length → s ∈ ks → ∃ i, ks[i]? = some s ∧ lk (ks.zip vs) s = vs[i]? ∧ i < vs.length
  | k :: ks, v :: vs, s, hl, h => by
    rw [List.zip_cons_cons, lk]
    by_cases e : k = s
    · subst e; exact ⟨0, rfl, by rw [if_pos rfl]; rfl, by simp⟩
    · have hs : s ∈ ks := by
        rcases List.mem_cons.mp h with q | q
        · exact absurd q.symm e
        · exact q
      obtain ⟨i, h1, h2, h3⟩ := lk_zip_at (ks := ks) (vs := vs) (by simpa using hl) hs
      exact ⟨i + 1, by simpa using h1, by rw [if_neg e]; simpa using h2, by simpa using h3⟩
  | [], _, _, _, h => by cases h
  | _ :: _, [], _, hl, _ => by simp at hl
theorem zipPut_new : ∀ (l acc : List (List Nat × List Nat)), (l.map (·.1)).Nodup → (∀ p ∈ l, lk acc p.1 = none) → zipPut (l.map kd) (acc.map kd) = (acc ++ l).map kd
  | [], acc, _, _ => by simp [zipPut]
  | p :: l, acc, nd, h => by
    have nd2 := List.nodup_cons.mp (show (p.1 :: l.map (·.1)).Nodup from nd)
    have e : zipPut ((p :: l).map kd) (acc.map kd) = zipPut (l.map kd) (putD (acc.map kd) (.str p.1) (.str p.2)) := rfl
    rw [e, put_kd (h p (by simp)), zipPut_new l (acc ++ [(p.1, p.2)]) nd2.2, List.append_assoc]
    · rfl
    · intro q hq
      rw [lk_app, h q (List.mem_cons_of_mem _ hq)]
      have : p.1 ≠ q.1 := fun z => nd2.1 (by rw [z]; exact List.mem_map_of_mem hq)
      simp [lk, this]
theorem zip_kd : ∀ (ks vs : List (List Nat)), (ks.map D.str).zip (vs.map D.str) = (ks.zip vs).map kd
  | [], _ => rfl
  | _ :: _, [] => rfl
  | k :: ks, v :: vs => by rw [List.map_cons, List.map_cons, List.zip_cons_cons, zip_kd ks vs]; rfl
theorem dz_kd {a b : Nat} {ks vs : List (List Nat)} {h : Hst} (ha : h[a]? = some (.lst (ks.map .str))) (hb : h[b]? = some (.lst (vs.map .str))) (hl : ks.length = vs.length) (nd : ks.Nodup) : dzD [.ref a, .ref b] h = .ok (.ref h.length) (h ++ [.dic false ((ks.zip vs).map kd)]) := by
  unfold dzD lstOf
  dsimp only
  rw [ha, hb]
  dsimp only
  have z : zipPut ((ks.zip vs).map kd) [] = (ks.zip vs).map kd := by
    have := zipPut_new (ks.zip vs) [] (by rw [List.map_fst_zip (by omega)]; exact nd) (fun _ _ => rfl)
    simpa using this
  rw [zip_kd, if_pos, z]
  rw [List.all_map]
  rw [List.all_eq_true]
  intro p _
  rfl
/-! ### renaming by a table -/
def B_ren (cr : List D → Hst → Res D) : Sm :=
    sSeq (sIf (tV (vB eqD (vB ixD (vVar 0) (vC (.int 0))) (vC (.str [110, 97, 109, 101])))) (sRet (vTup (aCons (vC (.str [110, 97, 109, 101])) (aCons (vM .dict getM (vVar 1) (aCons (vB ixD (vVar 0) (vC (.int 1))) (aCons (vB ixD (vVar 0) (vC (.int 1))) (aNil)))) (aNil))))) (sNil)) <|
    sSeq (sIf (tV (vB eqD (vB ixD (vVar 0) (vC (.int 0))) (vC (.str [98, 105, 110, 100])))) (sRet (vTup (aCons (vC (.str [98, 105, 110, 100])) (aCons (vM .dict getM (vVar 1) (aCons (vB ixD (vVar 0) (vC (.int 1))) (aCons (vB ixD (vVar 0) (vC (.int 1))) (aNil)))) (aCons (vF 2 (cr) (aCons (vB ixD (vVar 0) (vC (.int 2))) (aCons (vVar 1) (aNil)))) (aNil)))))) (sNil)) <|
    sRet (vTup (aCons (vC (.str [97, 112, 112, 108, 121])) (aCons (vF 2 (cr) (aCons (vB ixD (vVar 0) (vC (.int 1))) (aCons (vVar 1) (aNil)))) (aCons (vF 2 (cr) (aCons (vB ixD (vVar 0) (vC (.int 2))) (aCons (vVar 1) (aNil)))) (aNil)))))
theorem ren_run (cr : List D → Hst → Res D) (t : Tm) {n : Nat} {l : List (List Nat × List Nat)} (h : Hst) (e : h[n]? = some (.dic false (l.map kd))) (hc : ∀ k ∈ t.kids, cr [k.d, .ref n] h = .ok (k.ren (sub1 l)).d h) : runF 2 (B_ren cr) [t.d, .ref n] h = .ok (t.ren (sub1 l)).d h := by
  unfold runF B_ren
  cases t with
  | nm s => simp [Tm.d, Tm.ren, tyD_dic e, get_kd s e]
  | bd s b =>
    have := hc b (by simp [Tm.kids])
    simp [Tm.d, Tm.ren, tyD_dic e, get_kd s e, this]
  | ap f a =>
    have h1 := hc f (by simp [Tm.kids])
    have h2 := hc a (by simp [Tm.kids])
    simp [Tm.d, Tm.ren, h1, h2]
/-! ### names that are not there -/
def vN (k : Nat) : List Nat := 118 :: decI k
theorem vN_inj {i j : Nat} (e : vN i = vN j) : i = j := decI_inj (List.cons.inj e).2
theorem nd_le {α : Type} [BEq α] [LawfulBEq α] : ∀ {l m : List α}, l.Nodup → (∀ x ∈ l, x ∈ m) → l.length ≤ m.length
  | [], _, _, _ => Nat.zero_le _
  | a :: l, m, nd, h => by
    have nd2 := List.nodup_cons.mp nd
    have ha := h a (by simp)
    have := nd_le (l := l) (m := m.erase a) nd2.2 fun x hx => (List.mem_erase_of_ne (fun z => nd2.1 (by rw [← z]; exact hx))).mpr (h x (List.mem_cons_of_mem _ hx))
    rw [List.length_erase_of_mem ha] at this
    have := List.length_pos_of_mem ha
    simp only [List.length_cons]
    omega
def stp (used : List (List Nat)) (c : Nat) : Nat := if used.contains (vN c) = true then c + 1 else c
def nxF (used : List (List Nat)) : Nat → Nat → Nat
  | 0, c => c
  | k + 1, c => stp used (nxF used k c)
/-- the first number from c on whose name is not there -/
def nx (used : List (List Nat)) (c : Nat) : Nat := nxF used used.length c
theorem nxF_or (used : List (List Nat)) (c : Nat) : ∀ k, (vN (nxF used k c) ∉ used ∧ c ≤ nxF used k c ∧ nxF used k c ≤ c + k ∧ ∀ j, c ≤ j → j < nxF used k c → vN j ∈ used) ∨ (nxF used k c = c + k ∧ ∀ j, c ≤ j → j < c + k → vN j ∈ used)
  | 0 => .inr ⟨rfl, fun j h1 h2 => absurd h2 (by omega)⟩
  | k + 1 => by
    rw [nxF]
    rcases nxF_or used c k with ⟨h1, h2, h3, h4⟩ | ⟨h1, h2⟩
    · have : stp used (nxF used k c) = nxF used k c := by unfold stp; rw [if_neg (by simpa using h1)]
      rw [this]
      exact .inl ⟨h1, h2, by omega, h4⟩
    · rw [h1]
      unfold stp
      by_cases q : vN (c + k) ∈ used
      · rw [if_pos (by simpa using q)]
        refine .inr ⟨by omega, fun j a b => ?_⟩
        by_cases e : j = c + k
        · rw [e]; exact q
        · exact h2 j a (by omega)
      · rw [if_neg (by simpa using q)]
        exact .inl ⟨q, by omega, by omega, h2⟩
theorem nx_spec (used : List (List Nat)) (c : Nat) : vN (nx used c) ∉ used ∧ c ≤ nx used c ∧ nx used c ≤ c + used.length ∧ ∀ j, c ≤ j → j < nx used c → vN j ∈ used := by
  rcases nxF_or used c used.length with q | ⟨h1, h2⟩
  · exact q
  · refine ⟨fun q => ?_, by unfold nx; omega, by unfold nx; omega, by unfold nx; rw [h1]; exact h2⟩
    unfold nx at q
    rw [h1] at q
    have := nd_le (l := (List.range (used.length + 1)).map fun i => vN (c + i)) (m := used) (by
      refine List.Pairwise.map _ (R := fun a b => a ≠ b) (fun a b hab z => hab ?_) List.nodup_range
      have := vN_inj z
      omega) (fun x hx => by
        obtain ⟨i, hi, rfl⟩ := List.mem_map.mp hx
        rw [List.mem_range] at hi
        by_cases e : i = used.length
        · rw [e]; exact q
        · exact h2 _ (by omega) (by omega))
    simp at this
    omega
theorem nx_of {used : List (List Nat)} {c m : Nat} (h1 : vN m ∉ used) (h2 : c ≤ m) (h3 : ∀ j, c ≤ j → j < m → vN j ∈ used) : nx used c = m := by
  obtain ⟨a, b, _, d⟩ := nx_spec used c
  by_cases e : nx used c < m
  · exact absurd (h3 _ b e) a
  · by_cases e2 : m < nx used c
    · exact absurd (d m h2 e2) h1
    · omega
theorem nx_skip {used : List (List Nat)} {c : Nat} (h : vN c ∈ used) : nx used (c + 1) = nx used c := by
  obtain ⟨a, b, _, d⟩ := nx_spec used c
  refine nx_of a ?_ fun j h1 h2 => d j (by omega) h2
  have : nx used c ≠ c := fun z => a (by rw [z]; exact h)
  omega
def frs (used : List (List Nat)) : Nat → Nat → List Nat
  | 0, _ => []
  | k + 1, c => nx used c :: frs used k (nx used c + 1)
def cnt (used : List (List Nat)) : Nat → Nat → Nat
  | 0, c => c
  | k + 1, c => cnt used k (nx used c + 1)
theorem frs_len (used : List (List Nat)) : ∀ k c, (frs used k c).length = k
  | 0, _ => rfl
  | k + 1, c => by rw [frs, List.length_cons, frs_len used k]
theorem frs_app (used : List (List Nat)) (m : Nat) : ∀ k c, frs used (k + m) c = frs used k c ++ frs used m (cnt used k c)
  | 0, c => by rw [Nat.zero_add]; rfl
  | k + 1, c => by rw [Nat.add_right_comm, frs, frs, frs_app used m k, cnt]; rfl
theorem cnt_add (used : List (List Nat)) (m : Nat) : ∀ k c, cnt used (k + m) c = cnt used m (cnt used k c)
  | 0, c => by rw [Nat.zero_add]; rfl
  | k + 1, c => by rw [Nat.add_right_comm, cnt, cnt, cnt_add used m k]
theorem cnt_le (used : List (List Nat)) : ∀ k c, cnt used k c ≤ c + k * (used.length + 1)
  | 0, c => by simp [cnt]
  | k + 1, c => by
    have h1 := cnt_le used k (nx used c + 1)
    have h2 := (nx_spec used c).2.2.1
    rw [cnt, Nat.add_mul]
    omega
theorem frs_mem (used : List (List Nat)) : ∀ k c, ∀ x ∈ frs used k c, c ≤ x ∧ vN x ∉ used
  | 0, _, _, h => by cases h
  | k + 1, c, x, h => by
    obtain ⟨a, b, _, _⟩ := nx_spec used c
    rcases List.mem_cons.mp h with q | q
    · subst q; exact ⟨b, a⟩
    · have := frs_mem used k _ x q
      exact ⟨by omega, this.2⟩
theorem frs_nodup (used : List (List Nat)) : ∀ k c, (frs used k c).Nodup
  | 0, _ => List.nodup_nil
  | k + 1, c => List.nodup_cons.mpr ⟨fun h => by have := (frs_mem used k _ _ h).1; omega, frs_nodup used k _⟩
def frN (used : List (List Nat)) (k : Nat) : List (List Nat) := (frs used k 0).map vN
theorem frN_len (used : List (List Nat)) (k : Nat) : (frN used k).length = k := by rw [frN, List.length_map, frs_len]
theorem frN_nodup (used : List (List Nat)) (k : Nat) : (frN used k).Nodup := List.Pairwise.map _ (R := fun a b => a ≠ b) (fun a b hab z => hab (vN_inj z)) (frs_nodup used k 0)
theorem frN_out {used : List (List Nat)} {k : Nat} {s : List Nat} (h : s ∈ frN used k) : s ∉ used := by
  obtain ⟨x, hx, rfl⟩ := List.mem_map.mp h
  exact (frs_mem used k 0 x hx).2
def y_fresh : Sm :=
    sSeq (sSet 4 (vB addD (vC (.str [118])) (vCall strC (aCons (vVar 3) (aNil))))) <|
    sSeq (sIf (tV (vB ninD (vVar 4) (vVar 1))) (sExpr (vM .list appendM (vVar 2) (aCons (vVar 4) (aNil)))) (sNil)) <|
    sAug 3 addS (vC (.int 1))
def B_fresh (g : Nat) : Sm :=
    sSeq (sSet 2 (vLst (aNil))) <|
    sSeq (sSet 3 (vC (.int 0))) <|
    sSeq (whileL (tV (vB ltD (vCall lenD (aCons (vVar 2) (aNil))) (vVar 0))) y_fresh g) <|
    sRet (vVar 2)
theorem addV (k : Nat) (hk : k < 1000000000000) (h : Hst) : addD (.str [118]) (.str (decI k)) h = .ok (.str (vN k)) h := by
  have := decI_lenN hk
  rw [addD_str _ (by simp; omega)]; rfl
theorem fresh_loop {used : List (List Nat)} {u : D} {h : Hst} (hu : ∀ (s : List Nat) (l : Hst), ninD (.str s) u (h ++ l) = .ok (.bl (!used.contains s)) (h ++ l)) : ∀ (k d c g : Nat) (acc : List (List Nat)) (x : Option D), nx used c = c + d → d ≤ used.length → d + k * (used.length + 1) < g → c + d + k * (used.length + 1) ≤ 100000000000 → acc.length + k ≤ 1000000 →
    ∃ c' y, whileL (tV (vB ltD (vCall lenD (aCons (vVar 2) (aNil))) (vVar 0))) y_fresh g [some (.int ((acc.length + k : Nat) : Int)), some u, some (.ref h.length), some (.int (c : Nat)), x] (h ++ [.lst (acc.map .str)]) =
      .nx [some (.int ((acc.length + k : Nat) : Int)), some u, some (.ref h.length), some (.int (c' : Nat)), y] (h ++ [.lst ((acc ++ (frs used k c).map vN).map .str)])
  | _, _, _, 0, _, _, _, _, hg, _, _ => absurd hg (Nat.not_lt_zero _)
  | 0, d, c, g + 1, acc, x, hd, hd2, hg, hc, hl => by
    have l1 : lenD [.ref h.length] (h ++ [.lst (acc.map D.str)]) = .ok (.int acc.length) (h ++ [.lst (acc.map D.str)]) := by rw [lenD_lst (get_app _ _)]; simp
    refine ⟨c, x, ?_⟩
    unfold whileL
    simp [l1, frs]
  | k + 1, d, c, g + 1, acc, x, hd, hd2, hg, hc, hl => by
    have l1 : lenD [.ref h.length] (h ++ [.lst (acc.map D.str)]) = .ok (.int acc.length) (h ++ [.lst (acc.map D.str)]) := by rw [lenD_lst (get_app _ _)]; simp
    have lt : (acc.length : Int) < acc.length + (k + 1) := by omega
    have st : ∀ hh, strC [.int (c : Int)] hh = .ok (.str (decI c)) hh := fun hh => strC_nat hh (by omega)
    have ad := addV c (by omega)
    rw [Nat.add_mul, Nat.one_mul] at hg hc
    unfold whileL
    by_cases q : vN c ∈ used
    · have d0 : d ≠ 0 := fun z => (nx_spec used c).1 (by rw [hd, z]; exact q)
      have cn : used.contains (vN c) = true := by simpa using q
      obtain ⟨c', y, e⟩ := fresh_loop hu (k + 1) (d - 1) (c + 1) g acc (some (.str (vN c))) (by rw [nx_skip q, hd]; omega) (by omega) (by rw [Nat.add_mul, Nat.one_mul]; omega) (by rw [Nat.add_mul, Nat.one_mul]; omega) hl
      refine ⟨c', y, ?_⟩
      have ef : frs used (k + 1) c = frs used (k + 1) (c + 1) := by rw [frs, frs, nx_skip q]
      rw [ef]
      have ys : y_fresh [some (.int ((acc.length : Int) + (k + 1))), some u, some (.ref h.length), some (.int (c : Nat)), x] (h ++ [.lst (acc.map D.str)]) = .nx [some (.int ((acc.length : Int) + (k + 1))), some u, some (.ref h.length), some (.int ((c : Int) + 1)), some (.str (vN c))] (h ++ [.lst (acc.map D.str)]) := by
        simp [y_fresh, st, ad, hu, q, cn]
      simp [l1, lt, ys]
      simpa using e
    · have e0 : nx used c = c := nx_of q (Nat.le_refl _) fun j h1 h2 => absurd h2 (by omega)
      have d0 : d = 0 := by omega
      have cn : used.contains (vN c) = false := by simpa using q
      have s1 := nx_spec used (c + 1)
      have ap := appendM_at h (acc.map D.str) (.str (vN c)) (by simp; omega)
      obtain ⟨c', y, e⟩ := fresh_loop hu k (nx used (c + 1) - (c + 1)) (c + 1) g (acc ++ [vN c]) (some (.str (vN c))) (by omega) (by omega) (by omega) (by omega) (by simp; omega)
      refine ⟨c', y, ?_⟩
      have ef : (frs used (k + 1) c).map vN = vN c :: (frs used k (c + 1)).map vN := by rw [frs, e0]; rfl
      have el : (((acc ++ [vN c]).length + k : Nat) : Int) = (acc.length : Int) + (k + 1) := by simp; omega
      rw [ef]
      rw [el] at e
      have ys : y_fresh [some (.int ((acc.length : Int) + (k + 1))), some u, some (.ref h.length), some (.int (c : Nat)), x] (h ++ [.lst (acc.map D.str)]) = .nx [some (.int ((acc.length : Int) + (k + 1))), some u, some (.ref h.length), some (.int ((c : Int) + 1)), some (.str (vN c))] (h ++ [.lst (acc.map D.str ++ [.str (vN c)])]) := by
        simp [y_fresh, st, ad, hu, q, cn, ap]
      simp [l1, lt, ys]
      simpa using e
theorem fresh_run {used : List (List Nat)} {u : D} {h : Hst} (hu : ∀ (s : List Nat) (l : Hst), ninD (.str s) u (h ++ l) = .ok (.bl (!used.contains s)) (h ++ l)) (k g : Nat) (hk : k ≤ 10000) (hl : used.length ≤ 10000) (hg : (k + 1) * (used.length + 1) < g) :
    runF 5 (B_fresh g) [.int k, u] h = .ok (.ref h.length) (h ++ [.lst ((frN used k).map .str)]) := by
  rw [runF_eq]
  have s1 := nx_spec used 0
  have m : k * (used.length + 1) ≤ 10000 * 10001 := Nat.mul_le_mul hk (by omega)
  rw [Nat.add_mul, Nat.one_mul] at hg
  obtain ⟨c', y, e⟩ := fresh_loop hu k (nx used 0) 0 g [] none (by omega) (by omega) (by omega) (by omega) (by simp; omega)
  have e2 : (frs used k 0).map (D.str ∘ vN) = (frN used k).map D.str := by simp [frN]
  simp [e2] at e
  unfold B_fresh
  simp [e]
  exact finish_new h (.lst _) [] (noRefs_str _)
end Mi

namespace Mi
open PySem PySem.Spec PyProof.Rows L2

/-! ### the canonical term -/
theorem wf_nodup : ∀ {t : Tm}, WF t → (leaves t).Nodup
  | .nm s, _ => by simp [leaves]
  | .bd s b, w => wf_nodup (t := b) w.2
  | .ap f a, w => List.nodup_append.mpr ⟨wf_nodup w.1, wf_nodup w.2.1, fun x hx y hy e => w.2.2 x hx (by rw [e]; exact hy)⟩
theorem bnds_nodup : ∀ {t : Tm}, WF t → (bnds t).Nodup
  | .nm s, _ => by simp [bnds, Tm.sub, isBd, Tm.head]
  | .bd s b, w => by rw [bnds_bd]; exact List.nodup_cons.mpr ⟨fr_bnds w.2 w.1, bnds_nodup w.2⟩
  | .ap f a, w => by
    rw [bnds_ap]
    exact List.nodup_append.mpr ⟨bnds_nodup w.1, bnds_nodup w.2.1, fun x hx y hy e => w.2.2 x (bnds_in w.1 x hx) (by rw [e]; exact bnds_in w.2.1 y hy)⟩
theorem leaf_or {t : Tm} (w : WF t) {s : List Nat} (h : s ∈ leaves t) : s ∈ bnds t ∨ s ∈ fr t := by
  by_cases q : s ∈ bnds t
  · exact .inl q
  · refine .inr ?_
    rw [fr_leaves w]
    exact List.mem_filter.mpr ⟨h, by simpa using q⟩
theorem bnds_len (t : Tm) : (bnds t).length ≤ t.sub.length := by
  unfold bnds
  rw [List.length_map]
  exact List.length_filter_le _ _
/-- the table from c on -/
def tabl (t : Tm) (used : List (List Nat)) (c : Nat) : List (List Nat × List Nat) := (bnds t).zip ((frs used (bnds t).length c).map vN)
def cano (t : Tm) (used : List (List Nat)) : Tm := t.ren (sub1 (tabl t used 0))
theorem tabl_eq (t : Tm) (used : List (List Nat)) : tabl t used 0 = (bnds t).zip (frN used (bnds t).length) := rfl
theorem tabl_bd (s : List Nat) (b : Tm) (used : List (List Nat)) (c : Nat) : tabl (.bd s b) used c = (s, vN (nx used c)) :: tabl b used (nx used c + 1) := by
  unfold tabl
  rw [bnds_bd]
  rfl
theorem tabl_ap (f a : Tm) (used : List (List Nat)) (c : Nat) : tabl (.ap f a) used c = tabl f used c ++ tabl a used (cnt used (bnds f).length c) := by
  unfold tabl
  rw [bnds_ap, List.length_append, frs_app, List.map_append, List.zip_append]
  rw [List.length_map, frs_len]
theorem tabl_key {t : Tm} {used : List (List Nat)} {c : Nat} {s : List Nat} (h : s ∉ bnds t) : lk (tabl t used c) s = none := lk_zip_none h
theorem tabl_len (t : Tm) (used : List (List Nat)) (c : Nat) : (tabl t used c).length = (bnds t).length := by
  unfold tabl
  rw [List.length_zip, List.length_map, frs_len, Nat.min_self]
theorem sub1_app {a b : List (List Nat × List Nat)} {s : List Nat} (h : lk b s = none) : sub1 (a ++ b) s = sub1 a s := by
  unfold sub1
  rw [lk_app, h]
  cases lk a s <;> rfl
theorem finish_eq {h h' : Hst} {d : D} (e : h'.length = h.length) : finish h d h' = .ok d h' := by
  unfold finish
  rw [if_pos e]
/-! the law's own way: a table and a counter -/
def sIxL (f : List D → Hst → Res D) : Sm :=
    sIf (tV (vB inD (vB addD (vC (.str [118])) (vCall strC (aCons (vB ixD (vVar 3) (vC (.int 0))) (aNil)))) (vVar 2))) (sIx (vVar 3) (vC (.int 0)) (vB addD (vB ixD (vVar 3) (vC (.int 0))) (vC (.int 1)))) (sNil)
def B_canL (cc : List D → Hst → Res D) : Sm :=
    sSeq (sIf (tV (vB eqD (vB ixD (vVar 0) (vC (.int 0))) (vC (.str [110, 97, 109, 101])))) (sRet (vTup (aCons (vC (.str [110, 97, 109, 101])) (aCons (vM .dict getM (vVar 1) (aCons (vB ixD (vVar 0) (vC (.int 1))) (aCons (vB ixD (vVar 0) (vC (.int 1))) (aNil)))) (aNil))))) (sNil)) <|
    sSeq (sIf (tV (vB eqD (vB ixD (vVar 0) (vC (.int 0))) (vC (.str [97, 112, 112, 108, 121])))) (sSeq (sSet 4 (vF 4 (cc) (aCons (vB ixD (vVar 0) (vC (.int 1))) (aCons (vVar 1) (aCons (vVar 2) (aCons (vVar 3) (aNil))))))) <|
    sRet (vTup (aCons (vC (.str [97, 112, 112, 108, 121])) (aCons (vVar 4) (aCons (vF 4 (cc) (aCons (vB ixD (vVar 0) (vC (.int 2))) (aCons (vVar 1) (aCons (vVar 2) (aCons (vVar 3) (aNil)))))) (aNil)))))) (sNil)) <|
    sSeq (sFor (iRng1 (aCons (vCall lenD (aCons (vVar 2) (aNil))) (aNil))) (gNm 5) (sIxL cc)) <|
    sSeq (sIx (vVar 1) (vB ixD (vVar 0) (vC (.int 1))) (vB addD (vC (.str [118])) (vCall strC (aCons (vB ixD (vVar 3) (vC (.int 0))) (aNil))))) <|
    sSeq (sIx (vVar 3) (vC (.int 0)) (vB addD (vB ixD (vVar 3) (vC (.int 0))) (vC (.int 1)))) <|
    sRet (vTup (aCons (vC (.str [98, 105, 110, 100])) (aCons (vB ixD (vVar 1) (vB ixD (vVar 0) (vC (.int 1)))) (aCons (vF 4 (cc) (aCons (vB ixD (vVar 0) (vC (.int 2))) (aCons (vVar 1) (aCons (vVar 2) (aCons (vVar 3) (aNil)))))) (aNil)))))
/-- the heap with this table and this counter -/
def hcs (h : Hst) (a b : Nat) (l : List (List Nat × List Nat)) (c : Nat) : Hst := (h.set a (.dic false (l.map kd))).set b (.lst [.int (c : Nat)])
section
variable {h : Hst} {a b r : Nat} {l l' : List (List Nat × List Nat)} {c c' : Nat}
theorem hcs_len : (hcs h a b l c).length = h.length := by simp [hcs]
theorem hcs_b (hb : b < h.length) : (hcs h a b l c)[b]? = some (.lst [.int (c : Nat)]) := by unfold hcs; rw [List.getElem?_set_self (by simpa using hb)]
theorem hcs_a (ha : a < h.length) (ab : a ≠ b) : (hcs h a b l c)[a]? = some (.dic false (l.map kd)) := by unfold hcs; rw [List.getElem?_set_ne (fun z => ab z.symm), List.getElem?_set_self ha]
theorem hcs_r (ra : r ≠ a) (rb : r ≠ b) : (hcs h a b l c)[r]? = h[r]? := by unfold hcs; rw [List.getElem?_set_ne (fun z => rb z.symm), List.getElem?_set_ne (fun z => ra z.symm)]
theorem hcs_setb : (hcs h a b l c).set b (.lst [.int (c' : Nat)]) = hcs h a b l c' := by unfold hcs; rw [List.set_set]
theorem hcs_seta (ab : a ≠ b) : (hcs h a b l c).set a (.dic false (l'.map kd)) = hcs h a b l' c := by unfold hcs; rw [List.set_comm _ _ (fun z => ab z.symm), List.set_set]
end
theorem set1 {n : Nat} {c : Int} {d : D} {h : Hst} (e : h[n]? = some (.lst [.int c])) : setD (.ref n) (.int 0) d h = some (h.set n (.lst [d])) := by
  unfold setD
  dsimp only
  rw [e]
  rfl
theorem at1 {n : Nat} {c : Int} {h : Hst} (e : h[n]? = some (.lst [.int c])) : ixD (.ref n) (.int 0) h = .ok (.int c) h := ixD_lst e rfl
theorem in_lst {n : Nat} {ts : List (List Nat)} {h : Hst} (s : List Nat) (e : h[n]? = some (.lst (ts.map .str))) : inD (.str s) (.ref n) h = .ok (.bl (ts.contains s)) h := by
  unfold inD inB
  dsimp only
  rw [e]
  dsimp only
  rw [if_pos ⟨rfl, allFlat_str ts⟩, anyEq_str]
theorem nx_le (used : List (List Nat)) (c : Nat) : nx used c ≤ c + used.length := (nx_spec used c).2.2.1
theorem nxF_le (used : List (List Nat)) (c : Nat) : ∀ k, nxF used k c ≤ c + k
  | 0 => Nat.le_refl _
  | k + 1 => by have := nxF_le used c k; rw [nxF]; unfold stp; split <;> omega
theorem canL_run (cc : List D → Hst → Res D) {used : List (List Nat)} {h : Hst} {a b r : Nat} (ha : a < h.length) (hb : b < h.length) (ab : a ≠ b) (ra : r ≠ a) (rb : r ≠ b) (er : h[r]? = some (.lst (used.map .str))) (lu : used.length ≤ 10000)
    (t : Tm) (w : WF t) (hc : ∀ k ∈ t.kids, ∀ (l : List (List Nat × List Nat)) (c : Nat), (∀ s ∈ bnds k, lk l s = none) → l.length + (bnds k).length ≤ 10000 → c + (bnds k).length * (used.length + 1) ≤ 100000000000 →
      cc [k.d, .ref a, .ref r, .ref b] (hcs h a b l c) = .ok (k.ren (sub1 (l ++ tabl k used c))).d (hcs h a b (l ++ tabl k used c) (cnt used (bnds k).length c)))
    (l : List (List Nat × List Nat)) (c : Nat) (hl : ∀ s ∈ bnds t, lk l s = none) (ll : l.length + (bnds t).length ≤ 10000) (lc : c + (bnds t).length * (used.length + 1) ≤ 100000000000) :
    runF 6 (B_canL cc) [t.d, .ref a, .ref r, .ref b] (hcs h a b l c) = .ok (t.ren (sub1 (l ++ tabl t used c))).d (hcs h a b (l ++ tabl t used c) (cnt used (bnds t).length c)) := by
  rw [runF_eq]
  unfold B_canL
  cases t with
  | nm s =>
    have bn : bnds (.nm s) = [] := by simp [bnds, Tm.sub, isBd, Tm.head]
    have tn : tabl (.nm s) used c = [] := by unfold tabl; rw [bn]; rfl
    have e := hcs_a (h := h) (l := l) (c := c) ha ab
    rw [bn, tn, List.append_nil]
    simp [Tm.d, Tm.ren, tyD_dic e, get_kd s e, cnt]
  | ap f g =>
    rw [bnds_ap] at hl ll lc
    rw [List.length_append] at ll lc
    rw [Nat.add_mul] at lc
    have h1 := hc f (by simp [Tm.kids]) l c (fun s hs => hl s (List.mem_append_left _ hs)) (by omega) (by omega)
    have c1 := cnt_le used (bnds f).length c
    have h2 := hc g (by simp [Tm.kids]) (l ++ tabl f used c) (cnt used (bnds f).length c) (fun s hs => by
      rw [lk_app, hl s (List.mem_append_right _ hs), tabl_key fun z => w.2.2 s (bnds_in w.1 s z) (bnds_in w.2.1 s hs)]; rfl) (by rw [List.length_append, tabl_len]; omega) (by omega)
    rw [List.append_assoc, ← tabl_ap, ← cnt_add] at h2
    have e1 : f.ren (sub1 (l ++ tabl f used c)) = f.ren (sub1 (l ++ tabl (.ap f g) used c)) := by
      rw [tabl_ap, ← List.append_assoc]
      exact ren_congr (fun x hx => (sub1_app (tabl_key fun z => w.2.2 x hx (bnds_in w.2.1 x z))).symm) fun x hx => (sub1_app (tabl_key fun z => w.2.2 x (bnds_in w.1 x hx) (bnds_in w.2.1 x z))).symm
    rw [e1] at h1
    rw [bnds_ap, List.length_append]
    simp [Tm.d, Tm.ren, h1, h2]
    exact finish_eq (by rw [hcs_len, hcs_len])
  | bd s k =>
    rw [bnds_bd] at hl ll lc
    rw [List.length_cons] at ll lc
    rw [Nat.add_mul, Nat.one_mul] at lc
    have nl := nx_le used c
    obtain ⟨en1, h1, e1, x, q1, q2⟩ := forL_end (chk := .none) (g := gNm 5) (b := sIxL cc) (rngD 0 used.length)
      (fun i en h' => ∃ x : Option D, en = [some (Tm.bd s k).d, some (.ref a), some (.ref r), some (.ref b), none, x] ∧ h' = hcs h a b l (nxF used i c)) [some (Tm.bd s k).d, some (.ref a), some (.ref r), some (.ref b), none, none] (hcs h a b l c) ⟨none, rfl, rfl⟩ (fun _ _ _ _ _ => trivial)
      (fun i x en h' hx ⟨y, q1, q2⟩ => by
        obtain ⟨hi, rfl⟩ := range_get hx
        subst q1
        rw [q2]
        refine ⟨_, rfl, ?_⟩
        have b1 := nxF_le used c i
        have eb := hcs_b (h := h) (a := a) (l := l) (c := nxF used i c) hb
        have er2 : (hcs h a b l (nxF used i c))[r]? = some (.lst (used.map .str)) := by rw [hcs_r ra rb]; exact er
        have st : ∀ hh, strC [.int (nxF used i c : Nat)] hh = .ok (.str (decI (nxF used i c : Nat))) hh := fun hh => strC_nat hh (by omega)
        have ad := addV (nxF used i c) (by omega)
        rw [nxF]
        unfold stp
        by_cases q : vN (nxF used i c) ∈ used
        · have cn : used.contains (vN (nxF used i c)) = true := by simpa using q
          have sb : setD (.ref b) (.int 0) (.int ((nxF used i c : Nat) + 1)) (hcs h a b l (nxF used i c)) = some (hcs h a b l (nxF used i c + 1)) := by
            rw [set1 eb, show ((nxF used i c : Nat) + 1 : Int) = ((nxF used i c + 1 : Nat) : Int) by omega, hcs_setb]
          simp [sIxL, at1 eb, st, ad, in_lst _ er2, q, sb]
          exact ⟨⟨_, rfl⟩, rfl⟩
        · have cn : used.contains (vN (nxF used i c)) = false := by simpa using q
          simp [sIxL, at1 eb, st, ad, in_lst _ er2, q]
          exact ⟨⟨_, rfl⟩, rfl⟩)
    rw [rngD_len] at q2
    rw [q1, q2] at e1
    have e1' : forL Chk.none (gNm 5) (sIxL cc) (rngD 0 used.length) [some (Tm.bd s k).d, some (.ref a), some (.ref r), some (.ref b), none, none] (hcs h a b l c) = .nx [some (Tm.bd s k).d, some (.ref a), some (.ref r), some (.ref b), none, x] (hcs h a b l (nx used c)) := e1
    have er0 : (hcs h a b l c)[r]? = some (.lst (used.map .str)) := by rw [hcs_r ra rb]; exact er
    have eb := hcs_b (h := h) (a := a) (l := l) (c := nx used c) hb
    have ea := hcs_a (h := h) (l := l) (c := nx used c) ha ab
    have st : ∀ hh, strC [.int (nx used c : Nat)] hh = .ok (.str (decI (nx used c : Nat))) hh := fun hh => strC_nat hh (by omega)
    have ad := addV (nx used c) (by omega)
    have ls : lk l s = none := hl s (by simp)
    have sa := set_kd (w := vN (nx used c)) ea ls (by omega)
    rw [hcs_seta ab] at sa
    have eb2 := hcs_b (h := h) (a := a) (l := l ++ [(s, vN (nx used c))]) (c := nx used c) hb
    have sb : setD (.ref b) (.int 0) (.int ((nx used c : Nat) + 1)) (hcs h a b (l ++ [(s, vN (nx used c))]) (nx used c)) = some (hcs h a b (l ++ [(s, vN (nx used c))]) (nx used c + 1)) := by
      rw [set1 eb2, show ((nx used c : Nat) + 1 : Int) = ((nx used c + 1 : Nat) : Int) by omega, hcs_setb]
    have ea2 := hcs_a (h := h) (l := l ++ [(s, vN (nx used c))]) (c := nx used c + 1) ha ab
    have lks : lk (l ++ [(s, vN (nx used c))]) s = some (vN (nx used c)) := by rw [lk_app, ls]; simp [lk]
    have h2 := hc k (by simp [Tm.kids]) (l ++ [(s, vN (nx used c))]) (nx used c + 1) (fun x hx => by
      have : s ≠ x := fun z => fr_bnds w.2 w.1 (by rw [z]; exact hx)
      rw [lk_app, hl x (List.mem_cons_of_mem _ hx)]; simp [lk, this]) (by simp; omega) (by omega)
    have et : l ++ [(s, vN (nx used c))] ++ tabl k used (nx used c + 1) = l ++ tabl (.bd s k) used c := by rw [tabl_bd, List.append_assoc]; rfl
    rw [et] at h2
    have ss : sub1 (l ++ tabl (.bd s k) used c) s = vN (nx used c) := by
      unfold sub1
      rw [tabl_bd, lk_app, ls, lk, if_pos rfl]
      rfl
    have cn : cnt used (bnds (.bd s k)).length c = cnt used (bnds k).length (nx used c + 1) := by rw [bnds_bd]; rfl
    rw [cn]
    have d0 : (Tm.bd s k).d = .tup [.str [98, 105, 110, 100], .str s, k.d] := rfl
    rw [d0] at e1'
    simp [Tm.d, lenD_lst er0, rng1K_nat (j := used.length) (hcs h a b l c) (by omega), e1', at1 eb, st, ad, sa, at1 eb2, sb, ix_kd ea2 lks, h2, Tm.ren, ss]
    exact finish_eq (by rw [hcs_len, hcs_len])
end Mi

namespace Mi
open PySem PySem.Spec PyProof.Rows L2

/-! ### what the canonical term keeps -/
theorem map_sub1 : ∀ {ks vs : List (List Nat)}, ks.Nodup → ks.length = vs.length → ks.map (sub1 (ks.zip vs)) = vs
  | [], [], _, _ => rfl
  | [], _ :: _, _, h => by simp at h
  | _ :: _, [], _, h => by simp at h
  | k :: ks, v :: vs, nd, h => by
    have nd2 := List.nodup_cons.mp nd
    rw [List.map_cons, List.zip_cons_cons]
    congr 1
    · simp [sub1, lk]
    · refine Eq.trans (List.map_congr_left fun x hx => ?_) (map_sub1 nd2.2 (by simpa using h))
      have : k ≠ x := fun z => nd2.1 (by rw [z]; exact hx)
      simp [sub1, lk, this]
theorem inj_of_nodup {α β : Type} {f : α → β} : ∀ {l : List α}, (l.map f).Nodup → ∀ x ∈ l, ∀ y ∈ l, f x = f y → x = y
  | [], _, _, h, _, _, _ => by cases h
  | a :: l, nd, x, hx, y, hy, e => by
    have nd2 := List.nodup_cons.mp (show (f a :: l.map f).Nodup from nd)
    rcases List.mem_cons.mp hx with q1 | q1 <;> rcases List.mem_cons.mp hy with q2 | q2
    · rw [q1, q2]
    · exact absurd (by rw [← q1, e]; exact List.mem_map_of_mem q2) nd2.1
    · exact absurd (by rw [← q2, ← e]; exact List.mem_map_of_mem q1) nd2.1
    · exact inj_of_nodup nd2.2 x q1 y q2 e
theorem tabl_map {t : Tm} (w : WF t) (used : List (List Nat)) : (bnds t).map (sub1 (tabl t used 0)) = frN used (bnds t).length := by
  rw [tabl_eq]
  exact map_sub1 (bnds_nodup w) (by rw [frN_len])
theorem tabl_fr {t : Tm} (w : WF t) (used : List (List Nat)) {s : List Nat} (h : s ∈ fr t) : sub1 (tabl t used 0) s = s := by
  unfold sub1
  rw [tabl_key (fr_bnds w h)]
  rfl
theorem tabl_inj {t : Tm} (w : WF t) : ∀ x ∈ leaves t, ∀ y ∈ leaves t, sub1 (tabl t (fr t) 0) x = sub1 (tabl t (fr t) 0) y → x = y := by
  have out : ∀ x ∈ bnds t, sub1 (tabl t (fr t) 0) x ∉ fr t := fun x hx => frN_out (k := (bnds t).length) (by rw [← tabl_map w]; exact List.mem_map_of_mem hx)
  intro x hx y hy e
  rcases leaf_or w hx with hx | hx <;> rcases leaf_or w hy with hy | hy
  · exact inj_of_nodup (by rw [tabl_map w]; exact frN_nodup _ _) x hx y hy e
  · rw [tabl_fr w _ hy] at e
    exact absurd (by rw [e]; exact hy) (out x hx)
  · rw [tabl_fr w _ hx] at e
    exact absurd (by rw [← e]; exact hx) (out y hy)
  · rw [tabl_fr w _ hx, tabl_fr w _ hy] at e
    exact e
theorem cano_wf {t : Tm} (w : WF t) : WF (cano t (fr t)) ∧ fr (cano t (fr t)) = fr t := by
  obtain ⟨h1, h2⟩ := ren_wf w (tabl_inj w)
  refine ⟨h1, h2.trans ?_⟩
  refine Eq.trans (List.map_congr_left (g := id) fun x hx => tabl_fr w _ hx) (List.map_id _)
theorem cano_idem {t : Tm} (w : WF t) : cano (cano t (fr t)) (fr t) = cano t (fr t) := by
  obtain ⟨w2, f2⟩ := cano_wf w
  have b2 : bnds (cano t (fr t)) = frN (fr t) (bnds t).length := by rw [cano, bnds_ren, tabl_map w]
  have e : ∀ x, sub1 (tabl (cano t (fr t)) (fr t) 0) x = x := fun x => by
    rw [tabl_eq, b2, frN_len]
    unfold sub1
    cases q : lk ((frN (fr t) (bnds t).length).zip (frN (fr t) (bnds t).length)) x with
    | none => rfl
    | some y =>
      have := lk_mem q
      rw [List.zip_eq_zipWith] at this
      have z : ∀ l : List (List Nat), ∀ p ∈ l.zipWith Prod.mk l, p.1 = p.2 := fun l => by
        induction l with
        | nil => intro p hp; cases hp
        | cons a l ih =>
          intro p hp
          rcases List.mem_cons.mp hp with rfl | hp
          · rfl
          · exact ih p hp
      exact (z _ _ this).symm
  conv => lhs; rw [cano]
  exact ren_id (fun x _ => e x) fun x _ => e x
/-- the canonical term of a renamed term -/
theorem cano_ren {t : Tm} (w : WF t) {g : List Nat → List Nat} (inj : ∀ x ∈ leaves t, ∀ y ∈ leaves t, g x = g y → x = y) (keep : ∀ x ∈ fr t, g x = x) (used : List (List Nat)) : cano (t.ren g) used = cano t used := by
  have lz : ∀ (ks vs : List (List Nat)), (∀ k ∈ ks, k ∈ leaves t) → ∀ x ∈ leaves t, lk ((ks.map g).zip vs) (g x) = lk (ks.zip vs) x := fun ks => by
    induction ks with
    | nil => intros; rfl
    | cons k ks ih =>
      intro vs hk x hx
      cases vs with
      | nil => rfl
      | cons v vs =>
        rw [List.map_cons, List.zip_cons_cons, List.zip_cons_cons, lk, lk]
        by_cases e : k = x
        · subst e; rw [if_pos rfl, if_pos rfl]
        · rw [if_neg (fun z => e (inj k (hk k (by simp)) x hx z)), if_neg e]
          exact ih vs (fun k hk2 => hk k (List.mem_cons_of_mem _ hk2)) x hx
  have main : ∀ x ∈ leaves t, sub1 (tabl (t.ren g) used 0) (g x) = sub1 (tabl t used 0) x := fun x hx => by
    unfold sub1
    rw [tabl_eq, tabl_eq, bnds_ren, List.length_map, lz _ _ (bnds_in w) x hx]
    rcases leaf_or w hx with q | q
    · obtain ⟨i, _, e2, e3⟩ := lk_zip_at (vs := frN used (bnds t).length) (by rw [frN_len]) q
      rw [e2, List.getElem?_eq_getElem e3]
      rfl
    · rw [lk_zip_none (fr_bnds w q), keep x q]
  rw [cano, cano, ren_ren]
  exact ren_congr main fun x hx => main x (bnds_in w x hx)
/-! ### the program's canonical -/
def B_canP (cp cn cf cr : List D → Hst → Res D) : Sm :=
    sSeq (sSet 1 (vLc [2] (iSeq (vF 1 (cp) (aCons (vVar 0) (aNil)))) (gNm 2) (tV (vB eqD (vB ixD (vVar 2) (vC (.int 0))) (vC (.str [98, 105, 110, 100])))) (vB ixD (vVar 2) (vC (.int 1))))) <|
    sSeq (sSet 3 (vF 2 (cn) (aCons (vCall lenD (aCons (vVar 1) (aNil))) (aCons (vF 1 (cf) (aCons (vVar 0) (aNil))) (aNil))))) <|
    sRet (vF 2 (cr) (aCons (vVar 0) (aCons (vCall dzD (aCons (vVar 1) (aCons (vVar 3) (aNil)))) (aNil))))
theorem canP_run (cp cn cf cr : List D → Hst → Res D) {t : Tm} (w : WF t) (hl : t.sub.length ≤ 4000) (h : Hst) (hp : ∀ h : Hst, cp [t.d] h = .ok (.ref h.length) (h ++ [.lst (t.sub.map Tm.d)])) (hf : ∀ h : Hst, cf [t.d] h = .ok (.ref h.length) (h ++ [.lst ((fr t).map .str)]))
    (hn : ∀ (h : Hst) (a : Nat), h[a]? = some (.lst ((fr t).map .str)) → cn [.int (bnds t).length, .ref a] h = .ok (.ref h.length) (h ++ [.lst ((frN (fr t) (bnds t).length).map .str)]))
    (hr : ∀ (h : Hst) (n : Nat) (l : List (List Nat × List Nat)), h[n]? = some (.dic false (l.map kd)) → cr [t.d, .ref n] h = .ok (t.ren (sub1 l)).d h) : runF 4 (B_canP cp cn cf cr) [t.d] h = .ok (cano t (fr t)).d h := by
  rw [runF_eq]
  unfold B_canP
  have b := lcL_filt (chk := .some (h.length, t.sub.map Tm.d)) (g := gNm 2) (t := (tV (vB eqD (vB ixD (vVar 2) (vC (.int 0))) (vC (.str [98, 105, 110, 100]))))) (f := (vB ixD (vVar 2) (vC (.int 1)))) (en := [some t.d, none, none, none]) (h := h ++ [.lst (t.sub.map Tm.d)])
    Tm.d isBd (fun p => .str p.lab) (by rw [Chk.ok, get_app]; rfl) t.sub [] (by simp; omega) (fun x hx => ⟨_, rfl, by simp [isBd], fun q => by simp [ix_lab (.inr (of_decide_eq_true q))]⟩)
  have be : (t.sub.filter isBd).map (fun p => D.str p.lab) = (bnds t).map .str := by unfold bnds; rw [List.map_map]; rfl
  rw [List.nil_append, be] at b
  have e1 : (h ++ [O.lst (t.sub.map Tm.d)])[h.length]? = some (.lst (t.sub.map Tm.d)) := by rw [get_app]; rfl
  have e2 : (h ++ [O.lst (t.sub.map Tm.d), .lst ((bnds t).map .str)])[h.length + 1]? = some (.lst ((bnds t).map .str)) := by rw [get_app2]; rfl
  have n1 := hn (h ++ [O.lst (t.sub.map Tm.d), .lst ((bnds t).map .str), .lst ((fr t).map .str)]) (h.length + 2) (by rw [get_app2]; rfl)
  have d1 := dz_kd (a := h.length + 1) (b := h.length + 3) (ks := bnds t) (vs := frN (fr t) (bnds t).length) (h := h ++ [O.lst (t.sub.map Tm.d), .lst ((bnds t).map .str), .lst ((fr t).map .str), .lst ((frN (fr t) (bnds t).length).map .str)]) (by rw [get_app2]; rfl) (by rw [get_app2]; rfl) (by rw [frN_len]) (bnds_nodup w)
  rw [← tabl_eq] at d1
  have r1 := hr (h ++ [O.lst (t.sub.map Tm.d), .lst ((bnds t).map .str), .lst ((fr t).map .str), .lst ((frN (fr t) (bnds t).length).map .str), .dic false ((tabl t (fr t) 0).map kd)]) (h.length + 4) _ (by rw [get_app2]; rfl)
  have l2 := lenD_lst e2
  simp at n1 d1 l2
  simp [hp, iterD_ref e1, wipeE, b, l2, hf, n1, d1, r1]
  exact finish_drop _ _ _ (Tm.noRef _)
/-! ### the laws' own renaming -/
def B_lren (cr : List D → Hst → Res D) : Sm :=
    sSeq (sIf (tV (vB eqD (vB ixD (vVar 0) (vC (.int 0))) (vC (.str [97, 112, 112, 108, 121])))) (sRet (vTup (aCons (vC (.str [97, 112, 112, 108, 121])) (aCons (vF 2 (cr) (aCons (vB ixD (vVar 0) (vC (.int 1))) (aCons (vVar 1) (aNil)))) (aCons (vF 2 (cr) (aCons (vB ixD (vVar 0) (vC (.int 2))) (aCons (vVar 1) (aNil)))) (aNil)))))) (sNil)) <|
    sSeq (sSet 2 (vB ixD (vVar 0) (vC (.int 1)))) <|
    sSeq (sIf (tV (vB inD (vVar 2) (vVar 1))) (sSet 2 (vB ixD (vVar 1) (vVar 2))) (sNil)) <|
    sSeq (sIf (tV (vB eqD (vB ixD (vVar 0) (vC (.int 0))) (vC (.str [110, 97, 109, 101])))) (sRet (vTup (aCons (vC (.str [110, 97, 109, 101])) (aCons (vVar 2) (aNil))))) (sNil)) <|
    sRet (vTup (aCons (vC (.str [98, 105, 110, 100])) (aCons (vVar 2) (aCons (vF 2 (cr) (aCons (vB ixD (vVar 0) (vC (.int 2))) (aCons (vVar 1) (aNil)))) (aNil)))))
theorem lren_run (cr : List D → Hst → Res D) (t : Tm) {n : Nat} {l : List (List Nat × List Nat)} (h : Hst) (e : h[n]? = some (.dic false (l.map kd))) (hc : ∀ k ∈ t.kids, cr [k.d, .ref n] h = .ok (k.ren (sub1 l)).d h) : runF 3 (B_lren cr) [t.d, .ref n] h = .ok (t.ren (sub1 l)).d h := by
  rw [runF_eq]
  unfold B_lren
  cases t with
  | nm s =>
    cases q : lk l s with
    | none => simp [Tm.d, Tm.ren, in_kd s e, q, sub1]
    | some v => simp [Tm.d, Tm.ren, in_kd s e, q, sub1, ix_kd e q]
  | bd s b =>
    have := hc b (by simp [Tm.kids])
    cases q : lk l s with
    | none => simp [Tm.d, Tm.ren, in_kd s e, q, sub1, this]
    | some v => simp [Tm.d, Tm.ren, in_kd s e, q, sub1, ix_kd e q, this]
  | ap f a =>
    have h1 := hc f (by simp [Tm.kids])
    have h2 := hc a (by simp [Tm.kids])
    simp [Tm.d, Tm.ren, h1, h2]
end Mi

namespace Mi
open PySem PySem.Spec PyProof.Rows L2

/-! ### the rule for names -/
abbrev LLn : List Nat := [97, 98, 99, 100, 101, 102, 103, 104, 105, 106, 107, 108, 109, 110, 111, 112, 113, 114, 115, 116, 117, 118, 119, 120, 121, 122]
abbrev DGn : List Nat := [48, 49, 50, 51, 52, 53, 54, 55, 56, 57]
def okN (s : List Nat) (i : Nat) : Bool := decide (s.getD i 0 ∈ LLn) || (decide (i ≠ 0) && decide (s.getD i 0 ∈ DGn))
def nmB (s : List Nat) : Bool := (decide (1 ≤ s.length) && decide (s.length ≤ 8)) && (List.range s.length).all (okN s)
def B_isname : Sm :=
    sSeq (sIf (tOrE (tNotE (tV (vCh leD leD (vC (.int 1)) (vCall lenD (aCons (vVar 0) (aNil))) (vC (.int 8))))) (tV (vB ninD (vB ixD (vVar 0) (vC (.int 0))) (vC (.str LLn))))) (sRet (vC (.bl false))) (sNil)) <|
    sSeq (sFor (iSeq (vVar 0)) (gNm 1) (sIf (tAndE (tV (vB ninD (vVar 1) (vC (.str LLn)))) (tV (vB ninD (vVar 1) (vC (.str DGn))))) (sRet (vC (.bl false))) (sNil))) <|
    sRet (vC (.bl true))
def B_named : Sm :=
    sSeq (sSet 1 (vC (.str LLn))) <|
    sSeq (sIf (tOrE (tV (vB ltD (vCall lenD (aCons (vVar 0) (aNil))) (vC (.int 1)))) (tV (vB gtD (vCall lenD (aCons (vVar 0) (aNil))) (vC (.int 8))))) (sRet (vC (.bl false))) (sNil)) <|
    sSeq (sFor (iRng1 (aCons (vCall lenD (aCons (vVar 0) (aNil))) (aNil))) (gNm 2) (sIf (tAndE (tV (vB ninD (vB ixD (vVar 0) (vVar 2)) (vVar 1))) (tOrE (tV (vB eqD (vVar 2) (vC (.int 0)))) (tV (vB ninD (vB ixD (vVar 0) (vVar 2)) (vC (.str DGn)))))) (sRet (vC (.bl false))) (sNil))) <|
    sRet (vC (.bl true))
theorem isname_run (s : List Nat) (h : Hst) : runF 2 B_isname [.str s] h = .ok (.bl (nmB s)) h := by
  rw [runF_eq]
  unfold B_isname
  obtain ⟨L, hL⟩ : ∃ l : List Nat, l = LLn := ⟨_, rfl⟩
  obtain ⟨G, hG⟩ : ∃ l : List Nat, l = DGn := ⟨_, rfl⟩
  by_cases hl : 1 ≤ s.length ∧ s.length ≤ 8
  · obtain ⟨h1, h8⟩ := hl
    obtain ⟨c0, e0⟩ : ∃ c0, s[0]? = some c0 := ⟨s[0], by simp⟩
    have hz : atI s 0 = some c0 := by have := atI_nat s 0; rw [e0] at this; exact this
    have A := forL_all (chk := .none) (g := gNm 1) (b := (sIf (tAndE (tV (vB ninD (vVar 1) (vC (.str LLn)))) (tV (vB ninD (vVar 1) (vC (.str DGn))))) (sRet (vC (.bl false))) (sNil))) (r := .bl false) (h := h) trivial (signs s) (fun i => decide (s.getD i 0 ∈ L) || decide (s.getD i 0 ∈ G))
      (fun en => ∃ x, en = [some (.str s), x]) [some (.str s), none] ⟨none, rfl⟩ (fun i x en hx ⟨y, h1⟩ => by
        unfold signs at hx
        rw [List.getElem?_map] at hx
        obtain ⟨c, hc, rfl⟩ := Option.map_eq_some_iff.mp hx
        subst h1
        refine ⟨_, rfl, ?_⟩
        rw [List.getD_eq_getElem?_getD, hc, ← hL, ← hG]
        by_cases q1 : c ∈ L <;> by_cases q2 : c ∈ G <;> simp [q1, q2])
    have sl : (signs s).length = s.length := by simp [signs]
    rw [sl] at A
    have p1 : (1 : Int) ≤ s.length := by omega
    have p8 : (s.length : Int) ≤ 8 := by omega
    have nb : nmB s = (List.range s.length).all (okN s) := by simp [nmB, h1, h8]
    rw [nb]
    simp only [← hL, ← hG] at A ⊢
    by_cases ok0 : c0 ∈ L
    · by_cases okA : ∀ i, i < s.length → (decide (s.getD i 0 ∈ L) || decide (s.getD i 0 ∈ G)) = true
      · obtain ⟨e1, A, x, q⟩ := A.1 okA
        have t : (List.range s.length).all (okN s) = true := List.all_eq_true.mpr fun i hi => by
          have := okA i (List.mem_range.mp hi)
          unfold okN
          rw [← hL, ← hG]
          by_cases i0 : i = 0
          · subst i0; rw [List.getD_eq_getElem?_getD, e0]; simp [ok0]
          · simpa [i0] using this
        rw [t]
        simp [iterD, ixD_str _ hz, ok0, A, p1, p8]
      · obtain ⟨i, hi⟩ := Classical.not_forall.mp okA
        obtain ⟨hi, hf⟩ := Classical.not_imp.mp hi
        have hf : (decide (s.getD i 0 ∈ L) || decide (s.getD i 0 ∈ G)) = false := by simpa using hf
        have A := A.2 ⟨i, hi, hf⟩
        have t : (List.range s.length).all (okN s) = false := List.all_eq_false.mpr ⟨i, List.mem_range.mpr hi, by
          rw [Bool.or_eq_false_iff] at hf
          unfold okN
          rw [← hL, ← hG, hf.1, hf.2]; simp⟩
        rw [t]
        simp [iterD, ixD_str _ hz, ok0, A, p1, p8]
    · have t : (List.range s.length).all (okN s) = false := List.all_eq_false.mpr ⟨0, List.mem_range.mpr (by omega), by
        unfold okN
        rw [← hL, List.getD_eq_getElem?_getD, e0]; simp [ok0]⟩
      rw [t]
      simp [iterD, ixD_str _ hz, ok0, p1, p8]
  · have t : nmB s = false := by
      unfold nmB
      by_cases q : 1 ≤ s.length
      · have : ¬ s.length ≤ 8 := fun z => hl ⟨q, z⟩
        simp [this]
      · simp [q]
    rw [t]
    by_cases p1 : (1 : Int) ≤ s.length
    · have p8 : ¬ (s.length : Int) ≤ 8 := by omega
      simp [p1, p8]
    · simp [p1]
theorem named_run (s : List Nat) (h : Hst) : runF 3 B_named [.str s] h = .ok (.bl (nmB s)) h := by
  rw [runF_eq]
  unfold B_named
  obtain ⟨L, hL⟩ : ∃ l : List Nat, l = LLn := ⟨_, rfl⟩
  obtain ⟨G, hG⟩ : ∃ l : List Nat, l = DGn := ⟨_, rfl⟩
  by_cases hl : 1 ≤ s.length ∧ s.length ≤ 8
  · obtain ⟨h1, h8⟩ := hl
    have B := forL_all (chk := .none) (g := gNm 2) (b := (sIf (tAndE (tV (vB ninD (vB ixD (vVar 0) (vVar 2)) (vVar 1))) (tOrE (tV (vB eqD (vVar 2) (vC (.int 0)))) (tV (vB ninD (vB ixD (vVar 0) (vVar 2)) (vC (.str DGn)))))) (sRet (vC (.bl false))) (sNil))) (r := .bl false) (h := h) trivial (rngD 0 s.length) (okN s)
      (fun en => ∃ x, en = [some (.str s), some (.str L), x]) [some (.str s), some (.str L), none] ⟨none, rfl⟩ (fun i x en hx ⟨y, h1⟩ => by
        obtain ⟨hi, rfl⟩ := range_get hx
        subst h1
        refine ⟨_, rfl, ?_⟩
        have hs : atI s (i : Int) = some s[i] := by rw [atI_nat]; simp [hi]
        unfold okN
        rw [List.getD_eq_getElem?_getD, List.getElem?_eq_getElem hi, ← hG, ← hL]
        generalize s[i] = c at hs
        by_cases q3 : i = 0
        · subst q3
          have hs : atI s 0 = some c := hs
          by_cases q1 : c ∈ L <;> by_cases q2 : c ∈ G <;> simp [ixD_str _ hs, q1, q2]
        · have q4 : ((i : Int) == 0) = false := by simpa using q3
          by_cases q1 : c ∈ L <;> by_cases q2 : c ∈ G <;> simp [ixD_str _ hs, q1, q2, q3, q4])
    rw [rngD_len] at B
    have n1 : ¬ (s.length : Int) < 1 := by omega
    have n8 : ¬ (8 : Int) < s.length := by omega
    have nb : nmB s = (List.range s.length).all (okN s) := by simp [nmB, h1, h8]
    rw [nb]
    simp only [← hL, ← hG] at B ⊢
    cases t : (List.range s.length).all (okN s) with
    | true =>
      obtain ⟨e2, B, y, q2⟩ := B.1 fun i hi => List.all_eq_true.mp t i (List.mem_range.mpr hi)
      simp [n1, n8, rng1K_nat (j := s.length) _ (by omega), B]
    | false =>
      obtain ⟨i, hi, hf⟩ := List.all_eq_false.mp t
      have B := B.2 ⟨i, List.mem_range.mp hi, by simpa using hf⟩
      simp [n1, n8, rng1K_nat (j := s.length) _ (by omega), B]
  · have t : nmB s = false := by
      unfold nmB
      by_cases q : 1 ≤ s.length
      · have : ¬ s.length ≤ 8 := fun z => hl ⟨q, z⟩
        simp [this]
      · simp [q]
    rw [t]
    by_cases p1 : (s.length : Int) < 1
    · simp [p1]
    · have p8 : (8 : Int) < s.length := by omega
      simp [p1, p8]
end Mi

namespace Mi
open PySem PySem.Spec PyProof.Rows L2

/-! ### the first fault of a term -/
abbrev kU : List Nat := [117, 115, 101]
abbrev kB : List Nat := [98, 105, 110, 100]
abbrev kE : List Nat := [101, 110, 100]
inductive Ft where
  | bad | rep | uns
def Ft.cls : Ft → Str
  | .bad => "BadName" | .rep => "Repeated" | .uns => "Unused"
def Ft.tag : Ft → List Nat
  | .bad => [98, 97, 100] | .rep => [114, 101, 112, 101, 97, 116, 101, 100] | .uns => [117, 110, 117, 115, 101, 100]
def evs : Tm → List (List Nat × List Nat)
  | .nm s => [(kU, s)]
  | .bd s b => [(kB, s)] ++ evs b ++ [(kE, s)]
  | .ap f a => evs f ++ evs a
def f1 (pre : List (List Nat × List Nat)) (e : List Nat × List Nat) : Option (Ft × List Nat) :=
  if e.1 ≠ kE ∧ nmB e.2 = false then some (.bad, e.2)
  else if e.1 = kU ∧ (kU, e.2) ∈ pre then some (.rep, e.2)
  else if e.1 = kB ∧ ((kU, e.2) ∈ pre ∨ (kB, e.2) ∈ pre) then some (.rep, e.2)
  else if e.1 = kE ∧ (kU, e.2) ∉ pre.drop (pre.idxOf (kB, e.2)) then some (.uns, e.2)
  else none
def flt (pre : List (List Nat × List Nat)) : List (List Nat × List Nat) → Option (Ft × List Nat)
  | [] => none
  | e :: r => match f1 pre e with
    | some x => some x
    | none => flt (pre ++ [e]) r
theorem flt_app (b : List (List Nat × List Nat)) : ∀ (a pre : List (List Nat × List Nat)), flt pre (a ++ b) = match flt pre a with
    | some x => some x
    | none => flt (pre ++ a) b
  | [], pre => by simp [flt]
  | e :: a, pre => by
    rw [List.cons_append, flt, flt]
    cases f1 pre e with
    | some x => rfl
    | none =>
      dsimp only
      rw [flt_app b a (pre ++ [e]), List.append_assoc]
      rfl
/-! the table of the program -/
theorem look_put (k v k' : D) : ∀ kvs : List (D × D), lookD (putD kvs k v) k' = if k = k' then some v else lookD kvs k' := by
  have m1 : ∀ kvs : List (D × D), lookD (kvs.map fun p => if p.1 = k then (p.1, v) else p) k' = if k = k' ∧ (kvs.any fun p => decide (p.1 = k)) = true then some v else lookD kvs k' := fun kvs => by
    induction kvs with
    | nil => simp [lookD]
    | cons p kvs ih =>
      rw [List.map_cons, lookD, lookD, ih]
      by_cases e1 : p.1 = k
      · subst e1
        by_cases e2 : p.1 = k'
        · subst e2; simp
        · simp [e2]
      · by_cases e2 : p.1 = k'
        · subst e2
          have : ¬ k = p.1 := fun z => e1 z.symm
          simp [e1, this]
        · rw [List.any_cons, if_neg e1, if_neg e2, if_neg e2, decide_eq_false e1, Bool.false_or]
  have m2 : ∀ kvs : List (D × D), (kvs.any fun p => decide (p.1 = k)) = false → lookD (kvs ++ [(k, v)]) k' = if k = k' then some v else lookD kvs k' := fun kvs => by
    induction kvs with
    | nil => intro _; simp [lookD]
    | cons p kvs ih =>
      intro h
      rw [List.any_cons, Bool.or_eq_false_iff] at h
      have e1 : ¬ p.1 = k := by simpa using h.1
      rw [List.cons_append, lookD, lookD, ih h.2]
      by_cases e2 : p.1 = k'
      · subst e2
        have : ¬ k = p.1 := fun z => e1 z.symm
        simp [this]
      · simp [e2]
  intro kvs
  unfold putD
  cases q : kvs.any fun p => decide (p.1 = k) with
  | true =>
    rw [if_pos rfl, m1, q]
    simp
  | false =>
    rw [if_neg (by simp), m2 _ q]
theorem put_len (k v : D) (kvs : List (D × D)) : (putD kvs k v).length ≤ kvs.length + 1 := by
  unfold putD
  split
  · simp
  · simp
structure Rl (pre : List (List Nat × List Nat)) (kvs : List (D × D)) : Prop where
  no : ∀ w, lookD kvs (.str w) = none ↔ ((kU, w) ∉ pre ∧ (kB, w) ∉ pre)
  tr : ∀ w, lookD kvs (.str w) = some (.bl true) ↔ (kU, w) ∈ pre
  bl : ∀ w d, lookD kvs (.str w) = some d → d = .bl true ∨ d = .bl false
section
variable {n : Nat} {kvs : List (D × D)} {h : Hst}
theorem dGet_s (kvs : List (D × D)) (w : List Nat) : dGet kvs false (.str w) = some (lookD kvs (.str w)) := by
  unfold dGet
  dsimp only
  rw [if_pos (show (keyD (.str w)).isSome = true from rfl)]
theorem get_d (w : List Nat) (d : D) (e : h[n]? = some (.dic false kvs)) : getM (.ref n) [.str w, d] h = .ok ((lookD kvs (.str w)).getD d) h := by
  unfold getM
  dsimp only
  rw [e]
  dsimp only
  rw [dGet_s]
theorem in_d (w : List Nat) (e : h[n]? = some (.dic false kvs)) : inD (.str w) (.ref n) h = .ok (.bl (lookD kvs (.str w)).isSome) h := by
  unfold inD inB
  dsimp only
  rw [e]
  dsimp only
  rw [dGet_s]
theorem ix_d {w : List Nat} {d : D} (e : h[n]? = some (.dic false kvs)) (q : lookD kvs (.str w) = some d) : ixD (.ref n) (.str w) h = .ok d h := by
  unfold ixD
  dsimp only
  rw [e]
  dsimp only
  rw [dGet_s, q]
theorem set_d (w : List Nat) (d : D) (e : h[n]? = some (.dic false kvs)) (hl : kvs.length < 16777216) : setD (.ref n) (.str w) d h = some (h.set n (.dic false (putD kvs (.str w) d))) := by
  unfold setD
  dsimp only
  rw [e]
  dsimp only
  unfold dPut
  dsimp only
  rw [if_pos ⟨rfl, hl⟩]
end
theorem finishX_eq {h h' : Hst} {x : Ex} (e : h'.length = h.length) : finishX h x h' = .err x h' := by
  unfold finishX
  split
  · rename_i q
    have := q.1
    rw [← e, List.take_length] at this
    rw [this]
  · rfl
def B_cpart (cp cn : List D → Hst → Res D) : Sm :=
    sSeq (sIf (tV (vB eqD (vB ixD (vVar 0) (vC (.int 0))) (vC (.str [97, 112, 112, 108, 121])))) (sSeq (sExpr (vF 2 (cp) (aCons (vB ixD (vVar 0) (vC (.int 1))) (aCons (vVar 1) (aNil))))) <|
    sSeq (sExpr (vF 2 (cp) (aCons (vB ixD (vVar 0) (vC (.int 2))) (aCons (vVar 1) (aNil))))) <|
    sRetN) (sNil)) <|
    sSeq (sSet 2 (vB ixD (vVar 0) (vC (.int 1)))) <|
    sSeq (sIf (tNotE (tTru (vF 1 (cn) (aCons (vVar 2) (aNil))))) (sRaise1 "BadName" "name" (vVar 2)) (sNil)) <|
    sSeq (sIf (tV (vB eqD (vB ixD (vVar 0) (vC (.int 0))) (vC (.str [110, 97, 109, 101])))) (sSeq (sIf (tTru (vM .dict getM (vVar 1) (aCons (vVar 2) (aCons (vC (.bl false)) (aNil))))) (sRaise1 "Repeated" "name" (vVar 2)) (sNil)) <|
    sSeq (sIx (vVar 1) (vVar 2) (vC (.bl true))) <|
    sRetN) (sNil)) <|
    sSeq (sIf (tV (vB inD (vVar 2) (vVar 1))) (sRaise1 "Repeated" "name" (vVar 2)) (sNil)) <|
    sSeq (sIx (vVar 1) (vVar 2) (vC (.bl false))) <|
    sSeq (sExpr (vF 2 (cp) (aCons (vB ixD (vVar 0) (vC (.int 2))) (aCons (vVar 1) (aNil))))) <|
    sIf (tNotE (tTru (vB ixD (vVar 1) (vVar 2)))) (sRaise1 "Unused" "name" (vVar 2)) (sNil)
/-- the answer of the check, with the table at a -/
def cpA (a : Nat) (h : Hst) (pre es : List (List Nat × List Nat)) (k : Nat) (r : Res D) : Prop := match flt pre es with
  | none => ∃ kvs', r = .ok .non (h.set a (.dic false kvs')) ∧ Rl (pre ++ es) kvs' ∧ kvs'.length ≤ k
  | some (t, w) => ∃ kvs', r = .err ⟨t.cls, [("name", .str w)]⟩ (h.set a (.dic false kvs'))
theorem cpart_run (cp cn : List D → Hst → Res D) (hn : ∀ (s : List Nat) (h : Hst), cn [.str s] h = .ok (.bl (nmB s)) h) (t : Tm) (a : Nat)
    (hc : ∀ k ∈ t.kids, ∀ (pre : List (List Nat × List Nat)) (kvs : List (D × D)) (h : Hst), Rl pre kvs → h[a]? = some (.dic false kvs) → kvs.length + (evs k).length ≤ 100000 → cpA a h pre (evs k) (kvs.length + (evs k).length) (cp [k.d, .ref a] h))
    (pre : List (List Nat × List Nat)) (kvs : List (D × D)) (h : Hst) (R : Rl pre kvs) (e : h[a]? = some (.dic false kvs)) (hl : kvs.length + (evs t).length ≤ 100000) : cpA a h pre (evs t) (kvs.length + (evs t).length) (runF 3 (B_cpart cp cn) [t.d, .ref a] h) := by
  have la := lt_get e
  have ty := tyD_dic e
  rw [runF_eq]
  unfold B_cpart
  cases t with
  | ap f g =>
    have h1 := hc f (by simp [Tm.kids]) pre kvs h R e (by rw [evs, List.length_append] at hl; omega)
    unfold cpA at h1 ⊢
    rw [evs, flt_app]
    cases q1 : flt pre (evs f) with
    | some x =>
      obtain ⟨t, w⟩ := x
      rw [q1] at h1
      obtain ⟨kvs', r⟩ := h1
      refine ⟨kvs', ?_⟩
      simp [Tm.d, Tm.head, r]
      exact finishX_eq (by simp)
    | none =>
      rw [q1] at h1
      obtain ⟨k1, r1, R1, l1⟩ := h1
      dsimp only
      have e1 : (h.set a (.dic false k1))[a]? = some (.dic false k1) := by rw [List.getElem?_set_self la]
      have h2 := hc g (by simp [Tm.kids]) (pre ++ evs f) k1 (h.set a (.dic false k1)) R1 e1 (by rw [evs, List.length_append] at hl; omega)
      unfold cpA at h2
      cases q2 : flt (pre ++ evs f) (evs g) with
      | some x =>
        obtain ⟨t, w⟩ := x
        rw [q2] at h2
        obtain ⟨k2, r2⟩ := h2
        refine ⟨k2, ?_⟩
        rw [List.set_set] at r2
        simp [Tm.d, Tm.head, r1, r2]
        exact finishX_eq (by simp)
      | none =>
        rw [q2] at h2
        obtain ⟨k2, r2, R2, l2⟩ := h2
        rw [List.set_set] at r2
        rw [List.append_assoc] at R2
        refine ⟨k2, ?_, R2, by rw [List.length_append]; omega⟩
        simp [Tm.d, Tm.head, r1, r2]
        exact finish_eq (by simp)
  | nm s =>
    unfold cpA
    have ev : evs (.nm s) = [(kU, s)] := rfl
    rw [ev]
    unfold flt f1
    cases b : nmB s with
    | false =>
      simp
      refine ⟨kvs, ?_⟩
      have : h.set a (.dic false kvs) = h := List.ext_getElem? fun i => by
        by_cases z : i = a
        · subst z; rw [List.getElem?_set_self la, e]
        · rw [List.getElem?_set_ne (fun q => z q.symm)]
      rw [this]
      simp [Tm.d, Tm.head, hn, b, sRaise1]
      exact finishX_eq rfl
    | true =>
      by_cases u : (kU, s) ∈ pre
      · have lt := (R.tr s).mpr u
        have gd := get_d s (.bl false) e
        rw [lt] at gd
        simp [u]
        refine ⟨kvs, ?_⟩
        have : h.set a (.dic false kvs) = h := List.ext_getElem? fun i => by
          by_cases z : i = a
          · subst z; rw [List.getElem?_set_self la, e]
          · rw [List.getElem?_set_ne (fun q => z q.symm)]
        rw [this]
        simp at gd
        simp [Tm.d, Tm.head, hn, b, ty, gd, sRaise1]
        exact finishX_eq rfl
      · have gd : getM (.ref a) [.str s, .bl false] h = .ok (.bl false) h := by
          rw [get_d s (.bl false) e]
          cases q : lookD kvs (.str s) with
          | none => rfl
          | some d =>
            rcases R.bl s d q with z | z
            · rw [z] at q; exact absurd ((R.tr s).mp q) u
            · rw [z]; rfl
        have sd := set_d s (.bl true) e (by omega)
        have pl := put_len (.str s) (.bl true) kvs
        simp [u, flt]
        refine ⟨putD kvs (.str s) (.bl true), ?_, ⟨fun w => ?_, fun w => ?_, fun w d hd => ?_⟩, pl⟩
        · simp [Tm.d, Tm.head, hn, b, ty, gd, sd]
          exact finish_eq (by simp)
        · rw [look_put]
          by_cases z : s = w
          · subst z; simp
          · have z2 : w ≠ s := fun q => z q.symm
            have := R.no w
            simp [z, z2, this]
        · rw [look_put]
          by_cases z : s = w
          · subst z; simp
          · have z2 : w ≠ s := fun q => z q.symm
            have := R.tr w
            simp [z, z2, this]
        · rw [look_put] at hd
          split at hd
          · exact .inl (Option.some.inj hd).symm
          · exact R.bl w d hd
  | bd s b =>
    unfold cpA
    have ev : evs (.bd s b) = (kB, s) :: (evs b ++ [(kE, s)]) := rfl
    rw [ev] at hl ⊢
    have same : h.set a (.dic false kvs) = h := List.ext_getElem? fun i => by
      by_cases z : i = a
      · subst z; rw [List.getElem?_set_self la, e]
      · rw [List.getElem?_set_ne (fun q => z q.symm)]
    rw [flt]
    cases nb : nmB s with
    | false =>
      have q : f1 pre (kB, s) = some (.bad, s) := by simp [f1, nb]
      rw [q]
      refine ⟨kvs, ?_⟩
      rw [same]
      simp [Tm.d, Tm.head, hn, nb, sRaise1]
      exact finishX_eq rfl
    | true =>
      by_cases u : (kU, s) ∈ pre ∨ (kB, s) ∈ pre
      · have q : f1 pre (kB, s) = some (.rep, s) := by simp [f1, nb, u]
        rw [q]
        refine ⟨kvs, ?_⟩
        rw [same]
        have ii := in_d s e
        have so : (lookD kvs (.str s)).isSome = true := by
          cases z : lookD kvs (.str s) with
          | none => have := (R.no s).mp z; exact absurd u (not_or.mpr this)
          | some d => rfl
        rw [so] at ii
        simp [Tm.d, Tm.head, hn, nb, ii, sRaise1]
        exact finishX_eq rfl
      · have q : f1 pre (kB, s) = none := by simp [f1, nb, u]
        rw [q]
        dsimp only
        have u2 := not_or.mp u
        have lno := (R.no s).mpr u2
        have ii := in_d s e
        rw [lno] at ii
        have ii : inD (.str s) (.ref a) h = .ok (.bl false) h := ii
        have sd := set_d s (.bl false) e (by omega)
        have pl := put_len (.str s) (.bl false) kvs
        have R1 : Rl (pre ++ [(kB, s)]) (putD kvs (.str s) (.bl false)) := ⟨fun w => by
          rw [look_put]
          by_cases z : s = w
          · subst z; simp
          · have z2 : w ≠ s := fun q => z q.symm
            have := R.no w
            simp [z, z2, this], fun w => by
          rw [look_put]
          by_cases z : s = w
          · subst z; simpa using u2.1
          · have z2 : w ≠ s := fun q => z q.symm
            have := R.tr w
            simp [z, this], fun w d hd => by
          rw [look_put] at hd
          split at hd
          · exact .inr (Option.some.inj hd).symm
          · exact R.bl w d hd⟩
        rw [List.length_cons, List.length_append] at hl
        have h2 := hc b (by simp [Tm.kids]) (pre ++ [(kB, s)]) _ (h.set a (.dic false (putD kvs (.str s) (.bl false)))) R1 (by rw [List.getElem?_set_self la]) (by omega)
        unfold cpA at h2
        rw [flt_app]
        cases q2 : flt (pre ++ [(kB, s)]) (evs b) with
        | some x =>
          obtain ⟨t, w⟩ := x
          rw [q2] at h2
          obtain ⟨k2, r2⟩ := h2
          refine ⟨k2, ?_⟩
          rw [List.set_set] at r2
          simp [Tm.d, Tm.head, hn, nb, ii, sd, r2]
          exact finishX_eq (by simp)
        | none =>
          rw [q2] at h2
          obtain ⟨k2, r2, R2, l2⟩ := h2
          rw [List.set_set] at r2
          dsimp only
          have e2 : (h.set a (.dic false k2))[a]? = some (.dic false k2) := by rw [List.getElem?_set_self la]
          obtain ⟨P, hP⟩ : ∃ P, pre ++ [(kB, s)] ++ evs b = P := ⟨_, rfl⟩
          have ix : P.idxOf (kB, s) = pre.length := by
            rw [← hP, List.append_assoc, List.idxOf_append, if_neg u2.2]
            simp
          have dr : P.drop (P.idxOf (kB, s)) = (kB, s) :: evs b := by
            rw [ix, ← hP, List.append_assoc, List.drop_left]
            rfl
          have uu : (kU, s) ∈ (kB, s) :: evs b ↔ (kU, s) ∈ P := by
            rw [← hP]
            simp [u2.1]
          rw [hP] at R2 ⊢
          have notR : (k2.length : Nat) ≤ kvs.length + (evs b).length + 1 := by omega
          by_cases us : (kU, s) ∈ P
          · have f0 : f1 P (kE, s) = none := by simp [f1, dr, uu.mpr us]
            have ix2 := ix_d e2 ((R2.tr s).mpr us)
            rw [flt, f0]
            dsimp only [flt]
            refine ⟨k2, ?_, ⟨fun w => ?_, fun w => ?_, R2.bl⟩, by simp; omega⟩
            · simp [Tm.d, Tm.head, hn, nb, ii, sd, r2, ix2]
              exact finish_eq (by simp)
            · rw [R2.no w, ← hP]; simp
            · rw [R2.tr w, ← hP]; simp
          · have f0 : f1 P (kE, s) = some (.uns, s) := by
              have := fun z => us (uu.mp z)
              simp [f1, dr]; simpa using this
            have lf : lookD k2 (.str s) = some (.bl false) := by
              cases z : lookD k2 (.str s) with
              | none =>
                have := ((R2.no s).mp z).2
                rw [← hP] at this
                simp at this
              | some d =>
                rcases R2.bl s d z with y | y
                · rw [y] at z; exact absurd ((R2.tr s).mp z) us
                · rw [y]
            have ix2 := ix_d e2 lf
            rw [flt, f0]
            refine ⟨k2, ?_⟩
            simp [Tm.d, Tm.head, hn, nb, ii, sd, r2, ix2, sRaise1]
            exact finishX_eq (by simp)
end Mi

namespace Mi
open PySem PySem.Spec PyProof.Rows L2
/-! ### the text -/
/-! ### the exceptions -/
def xsub : List (Str × List Str) := [("BadName", ["DrawnonceError", "NameFault", "BadName", "ValueError"]), ("Repeated", ["DrawnonceError", "NameFault", "Repeated", "ValueError"]), ("Unused", ["DrawnonceError", "NameFault", "Unused", "ValueError"]), ("TooLarge", ["DrawnonceError", "TooLarge", "ValueError"])]
def xt : XT := ⟨["BadName", "Repeated", "Unused", "TooLarge"], ["DrawnonceError", "NameFault", "BadName", "Repeated", "Unused", "UnknownName", "TooLarge"], ["ValueError"], ["name"], fun c y => match xsub.lookup c with | some l => l.contains y | none => false⟩
@[simp] theorem xa_BadName_DrawnonceError : xt.ask "BadName" "DrawnonceError" = some true := by decide +kernel
@[simp] theorem xa_BadName_NameFault : xt.ask "BadName" "NameFault" = some true := by decide +kernel
@[simp] theorem xa_BadName_BadName : xt.ask "BadName" "BadName" = some true := by decide +kernel
@[simp] theorem xa_BadName_Repeated : xt.ask "BadName" "Repeated" = some false := by decide +kernel
@[simp] theorem xa_BadName_Unused : xt.ask "BadName" "Unused" = some false := by decide +kernel
@[simp] theorem xa_BadName_UnknownName : xt.ask "BadName" "UnknownName" = some false := by decide +kernel
@[simp] theorem xa_BadName_TooLarge : xt.ask "BadName" "TooLarge" = some false := by decide +kernel
@[simp] theorem xb_BadName_ValueError : xt.askB "BadName" "ValueError" = some true := by decide +kernel
@[simp] theorem xa_Repeated_DrawnonceError : xt.ask "Repeated" "DrawnonceError" = some true := by decide +kernel
@[simp] theorem xa_Repeated_NameFault : xt.ask "Repeated" "NameFault" = some true := by decide +kernel
@[simp] theorem xa_Repeated_BadName : xt.ask "Repeated" "BadName" = some false := by decide +kernel
@[simp] theorem xa_Repeated_Repeated : xt.ask "Repeated" "Repeated" = some true := by decide +kernel
@[simp] theorem xa_Repeated_Unused : xt.ask "Repeated" "Unused" = some false := by decide +kernel
@[simp] theorem xa_Repeated_UnknownName : xt.ask "Repeated" "UnknownName" = some false := by decide +kernel
@[simp] theorem xa_Repeated_TooLarge : xt.ask "Repeated" "TooLarge" = some false := by decide +kernel
@[simp] theorem xb_Repeated_ValueError : xt.askB "Repeated" "ValueError" = some true := by decide +kernel
@[simp] theorem xa_Unused_DrawnonceError : xt.ask "Unused" "DrawnonceError" = some true := by decide +kernel
@[simp] theorem xa_Unused_NameFault : xt.ask "Unused" "NameFault" = some true := by decide +kernel
@[simp] theorem xa_Unused_BadName : xt.ask "Unused" "BadName" = some false := by decide +kernel
@[simp] theorem xa_Unused_Repeated : xt.ask "Unused" "Repeated" = some false := by decide +kernel
@[simp] theorem xa_Unused_Unused : xt.ask "Unused" "Unused" = some true := by decide +kernel
@[simp] theorem xa_Unused_UnknownName : xt.ask "Unused" "UnknownName" = some false := by decide +kernel
@[simp] theorem xa_Unused_TooLarge : xt.ask "Unused" "TooLarge" = some false := by decide +kernel
@[simp] theorem xb_Unused_ValueError : xt.askB "Unused" "ValueError" = some true := by decide +kernel
@[simp] theorem xa_TooLarge_DrawnonceError : xt.ask "TooLarge" "DrawnonceError" = some true := by decide +kernel
@[simp] theorem xa_TooLarge_NameFault : xt.ask "TooLarge" "NameFault" = some false := by decide +kernel
@[simp] theorem xa_TooLarge_BadName : xt.ask "TooLarge" "BadName" = some false := by decide +kernel
@[simp] theorem xa_TooLarge_Repeated : xt.ask "TooLarge" "Repeated" = some false := by decide +kernel
@[simp] theorem xa_TooLarge_Unused : xt.ask "TooLarge" "Unused" = some false := by decide +kernel
@[simp] theorem xa_TooLarge_UnknownName : xt.ask "TooLarge" "UnknownName" = some false := by decide +kernel
@[simp] theorem xa_TooLarge_TooLarge : xt.ask "TooLarge" "TooLarge" = some true := by decide +kernel
@[simp] theorem xb_TooLarge_ValueError : xt.askB "TooLarge" "ValueError" = some true := by decide +kernel
def tp (i : Nat) : Stmt := PySem.Challenge.pw_drawnonce_k01_first_fault_of_a_term.main.body.getD i (.Pass ⟨0, 0, 0, 0⟩)
inductive FN where
  | is_name | below | parts | size | check_part | check_term | l_cell | l_at | l_same | l_digits | l_name | l_term | l_nest | l_chain | l_bushy | l_built | l_strings | l_dressed | l_changed | l_named | l_events | l_nodes | l_fault | l_due | l_told | f_law
  deriving DecidableEq
namespace Run
def y_is_name_1 (c : FN → List D → Hst → Res D) (g : Nat) : Sm :=
    sIf (tAndE (tV (vB ninD (vVar 1) (vC (.str [97, 98, 99, 100, 101, 102, 103, 104, 105, 106, 107, 108, 109, 110, 111, 112, 113, 114, 115, 116, 117, 118, 119, 120, 121, 122])))) (tV (vB ninD (vVar 1) (vC (.str [48, 49, 50, 51, 52, 53, 54, 55, 56, 57]))))) (sRet (vC (.bl false))) (sNil)
def b_is_name (c : FN → List D → Hst → Res D) (g : Nat) : Sm :=
    sSeq (sIf (tOrE (tNotE (tV (vCh leD leD (vC (.int 1)) (vCall lenD (aCons (vVar 0) (aNil))) (vC (.int 8))))) (tV (vB ninD (vB ixD (vVar 0) (vC (.int 0))) (vC (.str [97, 98, 99, 100, 101, 102, 103, 104, 105, 106, 107, 108, 109, 110, 111, 112, 113, 114, 115, 116, 117, 118, 119, 120, 121, 122]))))) (sRet (vC (.bl false))) (sNil)) <|
    sSeq (sFor (iSeq (vVar 0)) (gNm 1) (y_is_name_1 c g)) <|
    sRet (vC (.bl true))
def b_below (c : FN → List D → Hst → Res D) (g : Nat) : Sm :=
    sSeq (sIf (tV (vB eqD (vB ixD (vVar 0) (vC (.int 0))) (vC (.str [98, 105, 110, 100])))) (sRet (vLst (aCons (vB ixD (vVar 0) (vC (.int 2))) (aNil)))) (sNil)) <|
    sSeq (sIf (tV (vB eqD (vB ixD (vVar 0) (vC (.int 0))) (vC (.str [97, 112, 112, 108, 121])))) (sRet (vLst (aCons (vB ixD (vVar 0) (vC (.int 1))) (aCons (vB ixD (vVar 0) (vC (.int 2))) (aNil))))) (sNil)) <|
    sRet (vLst (aNil))
def y_parts_1 (c : FN → List D → Hst → Res D) (g : Nat) : Sm :=
    sSeq (sSet 3 (vM .list popM (vVar 2) (aNil))) <|
    sSeq (sExpr (vM .list appendM (vVar 1) (aCons (vVar 3) (aNil)))) <|
    sExpr (vM .list extendM (vVar 2) (aCons (vU revD (vF 1 (c .below) (aCons (vVar 3) (aNil)))) (aNil)))
def b_parts (c : FN → List D → Hst → Res D) (g : Nat) : Sm :=
    sSeq (sSet 1 (vLst (aNil))) <|
    sSeq (sSet 2 (vLst (aCons (vVar 0) (aNil)))) <|
    sSeq (whileL (tTru (vVar 2)) (y_parts_1 c g) g) <|
    sRet (vVar 1)
def b_size (c : FN → List D → Hst → Res D) (g : Nat) : Sm :=
    sRet (vCall lenD (aCons (vLc [1] (iSeq (vF 1 (c .parts) (aCons (vVar 0) (aNil)))) (gNm 1) (tV (vB neD (vB ixD (vVar 1) (vC (.int 0))) (vC (.str [110, 97, 109, 101])))) (vVar 1)) (aNil)))
def b_check_part (c : FN → List D → Hst → Res D) (g : Nat) : Sm :=
    sSeq (sIf (tV (vB eqD (vB ixD (vVar 0) (vC (.int 0))) (vC (.str [97, 112, 112, 108, 121])))) (sSeq (sExpr (vF 2 (c .check_part) (aCons (vB ixD (vVar 0) (vC (.int 1))) (aCons (vVar 1) (aNil))))) <|
    sSeq (sExpr (vF 2 (c .check_part) (aCons (vB ixD (vVar 0) (vC (.int 2))) (aCons (vVar 1) (aNil))))) <|
    sRetN) (sNil)) <|
    sSeq (sSet 2 (vB ixD (vVar 0) (vC (.int 1)))) <|
    sSeq (sIf (tNotE (tTru (vF 1 (c .is_name) (aCons (vVar 2) (aNil))))) (sRaise1 "BadName" "name" (vVar 2)) (sNil)) <|
    sSeq (sIf (tV (vB eqD (vB ixD (vVar 0) (vC (.int 0))) (vC (.str [110, 97, 109, 101])))) (sSeq (sIf (tTru (vM .dict getM (vVar 1) (aCons (vVar 2) (aCons (vC (.bl false)) (aNil))))) (sRaise1 "Repeated" "name" (vVar 2)) (sNil)) <|
    sSeq (sIx (vVar 1) (vVar 2) (vC (.bl true))) <|
    sRetN) (sNil)) <|
    sSeq (sIf (tV (vB inD (vVar 2) (vVar 1))) (sRaise1 "Repeated" "name" (vVar 2)) (sNil)) <|
    sSeq (sIx (vVar 1) (vVar 2) (vC (.bl false))) <|
    sSeq (sExpr (vF 2 (c .check_part) (aCons (vB ixD (vVar 0) (vC (.int 2))) (aCons (vVar 1) (aNil))))) <|
    sIf (tNotE (tTru (vB ixD (vVar 1) (vVar 2)))) (sRaise1 "Unused" "name" (vVar 2)) (sNil)
def b_check_term (c : FN → List D → Hst → Res D) (g : Nat) : Sm :=
    sSeq (sSet 1 (vF 1 (c .size) (aCons (vVar 0) (aNil)))) <|
    sSeq (sIf (tV (vB gtD (vVar 1) (vC (.int 60)))) (sRaise0 "TooLarge") (sNil)) <|
    sSeq (sExpr (vF 2 (c .check_part) (aCons (vVar 0) (aCons (vDic false) (aNil))))) <|
    sRet (vVar 1)
def b_l_cell (c : FN → List D → Hst → Res D) (g : Nat) : Sm :=
    sSeq (sIf (tV (vB ltD (vVar 1) (vCall lenD (aCons (vVar 0) (aNil))))) (sRet (vB ixD (vVar 0) (vVar 1))) (sNil)) <|
    sRet (vC (.int 0))
def b_l_at (c : FN → List D → Hst → Res D) (g : Nat) : Sm :=
    sSeq (sIf (tV (vB ltD (vVar 1) (vCall lenD (aCons (vVar 0) (aNil))))) (sRet (vB ixD (vVar 0) (vVar 1))) (sNil)) <|
    sRet (vC (.int 0))
def y_l_same_1 (c : FN → List D → Hst → Res D) (g : Nat) : Sm :=
    sIf (tNotE (tTru (vF 2 (c .l_same) (aCons (vB ixD (vVar 0) (vVar 2)) (aCons (vB ixD (vVar 1) (vVar 2)) (aNil)))))) (sRet (vC (.bl false))) (sNil)
def b_l_same (c : FN → List D → Hst → Res D) (g : Nat) : Sm :=
    sSeq (sIf (tTru (vIsi [.bool] (vVar 1))) (sRet (vAnd (vIsi [.bool] (vVar 0)) (vB eqD (vVar 0) (vVar 1)))) (sNil)) <|
    sSeq (sIf (tTru (vIsi [.int] (vVar 1))) (sRet (vAnd (vIsi [.int] (vVar 0)) (vAnd (vNot (vIsi [.bool] (vVar 0))) (vB eqD (vVar 0) (vVar 1))))) (sNil)) <|
    sSeq (sIf (tTru (vIsi [.str] (vVar 1))) (sRet (vAnd (vIsi [.str] (vVar 0)) (vB eqD (vVar 0) (vVar 1)))) (sNil)) <|
    sSeq (sIf (tOrE (tV (vB neD (vIsi [.tuple] (vVar 1)) (vIsi [.tuple] (vVar 0)))) (tV (vB neD (vIsi [.list] (vVar 1)) (vIsi [.list] (vVar 0))))) (sRet (vC (.bl false))) (sNil)) <|
    sSeq (sIf (tOrE (tNotE (tTru (vIsi [.tuple, .list] (vVar 0)))) (tV (vB neD (vCall lenD (aCons (vVar 0) (aNil))) (vCall lenD (aCons (vVar 1) (aNil)))))) (sRet (vC (.bl false))) (sNil)) <|
    sSeq (sFor (iRng1 (aCons (vCall lenD (aCons (vVar 1) (aNil))) (aNil))) (gNm 2) (y_l_same_1 c g)) <|
    sRet (vC (.bl true))
def y_l_digits_1 (c : FN → List D → Hst → Res D) (g : Nat) : Sm :=
    sIf (tV (vB gtD (vVar 4) (vC (.int 0)))) (sSeq (sExpr (vM .list appendM (vVar 3) (aCons (vB modD (vVar 4) (vC (.int 60))) (aNil)))) <|
    sSet 4 (vB divD (vVar 4) (vC (.int 60)))) (sNil)
def y_l_digits_2 (c : FN → List D → Hst → Res D) (g : Nat) : Sm :=
    sSeq (sSet 6 (vB modD (vCall intC (aCons (vB addD (vB addD (vB mulD (vVar 6) (vC (.int 48271))) (vC (.int 11))) (vVar 5)) (aNil))) (vC (.int 2147483647)))) <|
    sExpr (vM .list appendM (vVar 3) (aCons (vB modD (vB divD (vB modD (vCall intC (aCons (vB addD (vB mulD (vVar 6) (vC (.int 69621))) (vVar 2)) (aNil))) (vC (.int 2147483629))) (vC (.int 7))) (vC (.int 60))) (aNil)))
def b_l_digits (c : FN → List D → Hst → Res D) (g : Nat) : Sm :=
    sSeq (sSet 3 (vLst (aNil))) <|
    sSeq (sSet 4 (vCall absD (aCons (vVar 0) (aNil)))) <|
    sSeq (sIf (tV (vB geD (vVar 4) (vB powD (vC (.int 10)) (vC (.int 18))))) (sSeq (sFor (iRng1 (aCons (vVar 1) (aNil))) (gNm 5) (y_l_digits_1 c g)) <|
    sRet (vVar 3)) (sNil)) <|
    sSeq (sSet 6 (vB addD (vB addD (vB mulD (vVar 4) (vC (.int 48271))) (vB mulD (vVar 2) (vC (.int 69621)))) (vC (.int 12345)))) <|
    sSeq (sFor (iRng1 (aCons (vVar 1) (aNil))) (gNm 5) (y_l_digits_2 c g)) <|
    sRet (vVar 3)
def b_l_name (c : FN → List D → Hst → Res D) (g : Nat) : Sm :=
    sSeq (sIf (tV (vB eqD (vB modD (vCall intC (aCons (vVar 1) (aNil))) (vC (.int 5))) (vC (.int 3)))) (sRet (vB addD (vC (.str [122, 122])) (vCall strC (aCons (vB subD (vC (.int 70)) (vVar 0)) (aNil))))) (sNil)) <|
    sRet (vB addD (vB ixD (vLst (aCons (vC (.str [110])) (aCons (vC (.str [118])) (aCons (vC (.str [113, 55])) (aCons (vC (.str [122, 122])) (aCons (vC (.str [108, 111, 110, 103])) (aNil))))))) (vB modD (vCall intC (aCons (vVar 1) (aNil))) (vC (.int 5)))) (vCall strC (aCons (vVar 0) (aNil))))
def y_l_term_1 (c : FN → List D → Hst → Res D) (g : Nat) : Sm :=
    sIf (tAndE (tV (vB eqD (vB modD (vVar 4) (vC (.int 3))) (vC (.int 2)))) (tV (vB geD (vCall lenD (aCons (vVar 2) (aNil))) (vC (.int 2))))) (sSeq (sSet 5 (vM .list popM (vVar 2) (aNil))) <|
    sSeq (sSet 6 (vM .list popM (vVar 2) (aNil))) <|
    sExpr (vM .list appendM (vVar 2) (aCons (vTup (aCons (vTup (aCons (vC (.str [97, 112, 112, 108, 121])) (aCons (vB ixD (vVar 6) (vC (.int 0))) (aCons (vB ixD (vVar 5) (vC (.int 0))) (aNil))))) (aCons (vB addD (vB ixD (vVar 6) (vC (.int 1))) (vB ixD (vVar 5) (vC (.int 1)))) (aNil)))) (aNil)))) (sIf (tAndE (tV (vB eqD (vB modD (vVar 4) (vC (.int 3))) (vC (.int 1)))) (tAndE (tV (vB neD (vVar 2) (vLst (aNil)))) (tV (vB neD (vB ixD (vB ixD (vVar 2) (vU negD (vC (.int 1)))) (vC (.int 1))) (vLst (aNil)))))) (sSeq (sSet 5 (vM .list popM (vVar 2) (aNil))) <|
    sSeq (sSet 7 (vB ixD (vB ixD (vVar 5) (vC (.int 1))) (vB modD (vB divD (vVar 4) (vC (.int 3))) (vCall lenD (aCons (vB ixD (vVar 5) (vC (.int 1))) (aNil)))))) <|
    sExpr (vM .list appendM (vVar 2) (aCons (vTup (aCons (vTup (aCons (vC (.str [98, 105, 110, 100])) (aCons (vVar 7) (aCons (vB ixD (vVar 5) (vC (.int 0))) (aNil))))) (aCons (vLc [8] (iSeq (vB ixD (vVar 5) (vC (.int 1)))) (gNm 8) (tV (vB neD (vVar 8) (vVar 7))) (vVar 8)) (aNil)))) (aNil)))) (sSeq (sExpr (vM .list appendM (vVar 2) (aCons (vTup (aCons (vTup (aCons (vC (.str [110, 97, 109, 101])) (aCons (vF 2 (c .l_name) (aCons (vVar 3) (aCons (vVar 1) (aNil)))) (aNil)))) (aCons (vLst (aCons (vF 2 (c .l_name) (aCons (vVar 3) (aCons (vVar 1) (aNil)))) (aNil))) (aNil)))) (aNil)))) <|
    sSet 3 (vB addD (vVar 3) (vC (.int 1)))))
def y_l_term_2 (c : FN → List D → Hst → Res D) (g : Nat) : Sm :=
    sIf (tV (vB geD (vCall lenD (aCons (vVar 2) (aNil))) (vC (.int 2)))) (sSeq (sSet 5 (vM .list popM (vVar 2) (aNil))) <|
    sSeq (sSet 6 (vM .list popM (vVar 2) (aNil))) <|
    sExpr (vM .list appendM (vVar 2) (aCons (vTup (aCons (vTup (aCons (vC (.str [97, 112, 112, 108, 121])) (aCons (vB ixD (vVar 6) (vC (.int 0))) (aCons (vB ixD (vVar 5) (vC (.int 0))) (aNil))))) (aCons (vB addD (vB ixD (vVar 6) (vC (.int 1))) (vB ixD (vVar 5) (vC (.int 1)))) (aNil)))) (aNil)))) (sNil)
def b_l_term (c : FN → List D → Hst → Res D) (g : Nat) : Sm :=
    sSeq (sSet 2 (vLst (aNil))) <|
    sSeq (sSet 3 (vC (.int 0))) <|
    sSeq (sFor (iSeq (vVar 0)) (gNm 4) (y_l_term_1 c g)) <|
    sSeq (sIf (tV (vB eqD (vVar 2) (vLst (aNil)))) (sExpr (vM .list appendM (vVar 2) (aCons (vTup (aCons (vTup (aCons (vC (.str [110, 97, 109, 101])) (aCons (vF 2 (c .l_name) (aCons (vVar 3) (aCons (vVar 1) (aNil)))) (aNil)))) (aCons (vLst (aCons (vF 2 (c .l_name) (aCons (vVar 3) (aCons (vVar 1) (aNil)))) (aNil))) (aNil)))) (aNil)))) (sNil)) <|
    sSeq (sFor (iRng1 (aCons (vCall lenD (aCons (vVar 0) (aNil))) (aNil))) (gNm 9) (y_l_term_2 c g)) <|
    sRet (vB ixD (vVar 2) (vC (.int 0)))
def y_l_nest_1 (c : FN → List D → Hst → Res D) (g : Nat) : Sm :=
    sSeq (sSet 4 (vB ixD (vVar 1) (vB divD (vVar 3) (vC (.int 3))))) <|
    sIf (tAndE (tV (vB eqD (vB modD (vVar 3) (vC (.int 3))) (vC (.int 2)))) (tV (vB geD (vCall lenD (aCons (vVar 2) (aNil))) (vC (.int 2))))) (sSeq (sSet 5 (vM .list popM (vVar 2) (aNil))) <|
    sSeq (sSet 6 (vM .list popM (vVar 2) (aNil))) <|
    sExpr (vM .list appendM (vVar 2) (aCons (vTup (aCons (vC (.str [97, 112, 112, 108, 121])) (aCons (vVar 6) (aCons (vVar 5) (aNil))))) (aNil)))) (sIf (tAndE (tV (vB eqD (vB modD (vVar 3) (vC (.int 3))) (vC (.int 1)))) (tV (vB neD (vVar 2) (vLst (aNil))))) (sSeq (sSet 5 (vM .list popM (vVar 2) (aNil))) <|
    sExpr (vM .list appendM (vVar 2) (aCons (vTup (aCons (vC (.str [98, 105, 110, 100])) (aCons (vVar 4) (aCons (vVar 5) (aNil))))) (aNil)))) (sExpr (vM .list appendM (vVar 2) (aCons (vTup (aCons (vC (.str [110, 97, 109, 101])) (aCons (vVar 4) (aNil)))) (aNil)))))
def y_l_nest_2 (c : FN → List D → Hst → Res D) (g : Nat) : Sm :=
    sIf (tV (vB geD (vCall lenD (aCons (vVar 2) (aNil))) (vC (.int 2)))) (sSeq (sSet 5 (vM .list popM (vVar 2) (aNil))) <|
    sSeq (sSet 6 (vM .list popM (vVar 2) (aNil))) <|
    sExpr (vM .list appendM (vVar 2) (aCons (vTup (aCons (vC (.str [97, 112, 112, 108, 121])) (aCons (vVar 6) (aCons (vVar 5) (aNil))))) (aNil)))) (sNil)
def b_l_nest (c : FN → List D → Hst → Res D) (g : Nat) : Sm :=
    sSeq (sSet 1 (vLst (aCons (vC (.str [120])) (aCons (vC (.str [121])) (aCons (vC (.str [122])) (aCons (vC (.str [120, 49])) (aCons (vC (.str [118, 48])) (aCons (vC (.str [118, 49])) (aCons (vC (.str [97, 50, 51, 52, 53, 54, 55, 56])) (aCons (vC (.str [98])) (aCons (vC (.str [99])) (aCons (vC (.str [120])) (aCons (vC (.str [121])) (aCons (vC (.str [])) (aCons (vC (.str [88])) (aCons (vC (.str [49, 120])) (aCons (vC (.str [97, 50, 51, 52, 53, 54, 55, 56, 57])) (aCons (vC (.str [120, 32, 121])) (aNil))))))))))))))))))) <|
    sSeq (sSet 1 (vB addD (vVar 1) (vLst (aCons (vC (.str [120, 95])) (aCons (vC (.str [120, 89])) (aCons (vC (.str [32, 120])) (aCons (vC (.str [122, 57])) (aNil)))))))) <|
    sSeq (sSet 2 (vLst (aNil))) <|
    sSeq (sFor (iSeq (vVar 0)) (gNm 3) (y_l_nest_1 c g)) <|
    sSeq (sIf (tV (vB eqD (vVar 2) (vLst (aNil)))) (sExpr (vM .list appendM (vVar 2) (aCons (vTup (aCons (vC (.str [110, 97, 109, 101])) (aCons (vC (.str [120])) (aNil)))) (aNil)))) (sNil)) <|
    sSeq (sFor (iRng1 (aCons (vCall lenD (aCons (vVar 0) (aNil))) (aNil))) (gNm 7) (y_l_nest_2 c g)) <|
    sRet (vB ixD (vVar 2) (vC (.int 0)))
def y_l_chain_1 (c : FN → List D → Hst → Res D) (g : Nat) : Sm :=
    sIf (tTru (vVar 2)) (sSet 3 (vTup (aCons (vC (.str [97, 112, 112, 108, 121])) (aCons (vTup (aCons (vC (.str [110, 97, 109, 101])) (aCons (vB addD (vC (.str [117])) (vCall strC (aCons (vVar 4) (aNil)))) (aNil)))) (aCons (vVar 3) (aNil)))))) (sSet 3 (vTup (aCons (vC (.str [97, 112, 112, 108, 121])) (aCons (vVar 3) (aCons (vTup (aCons (vC (.str [110, 97, 109, 101])) (aCons (vB addD (vC (.str [117])) (vCall strC (aCons (vVar 4) (aNil)))) (aNil)))) (aNil))))))
def y_l_chain_2 (c : FN → List D → Hst → Res D) (g : Nat) : Sm :=
    sSet 3 (vTup (aCons (vC (.str [98, 105, 110, 100])) (aCons (vB addD (vC (.str [117])) (vCall strC (aCons (vVar 4) (aNil)))) (aCons (vVar 3) (aNil)))))
def b_l_chain (c : FN → List D → Hst → Res D) (g : Nat) : Sm :=
    sSeq (sSet 3 (vTup (aCons (vC (.str [110, 97, 109, 101])) (aCons (vC (.str [117, 48])) (aNil))))) <|
    sSeq (sFor (iRng2 (aCons (vC (.int 1)) (aCons (vB subD (vB addD (vVar 0) (vC (.int 1))) (vVar 1)) (aNil)))) (gNm 4) (y_l_chain_1 c g)) <|
    sSeq (sFor (iRng1 (aCons (vVar 1) (aNil))) (gNm 4) (y_l_chain_2 c g)) <|
    sRet (vVar 3)
def y_l_bushy_1 (c : FN → List D → Hst → Res D) (g : Nat) : Sm :=
    sSeq (sSet 6 (vTup (aCons (vC (.str [110, 97, 109, 101])) (aCons (vB addD (vC (.str [117])) (vCall strC (aCons (vVar 5) (aNil)))) (aNil))))) <|
    sSeq (sIf (tAndE (tV (vB gtD (vVar 3) (vC (.int 0)))) (tAndE (tV (vB leD (vVar 2) (vC (.int 333)))) (tV (vB eqD (vB modD (vVar 5) (vVar 3)) (vC (.int 0)))))) (sSet 6 (vTup (aCons (vC (.str [98, 105, 110, 100])) (aCons (vB addD (vC (.str [117])) (vCall strC (aCons (vVar 5) (aNil)))) (aCons (vVar 6) (aNil)))))) (sNil)) <|
    sExpr (vM .list appendM (vVar 4) (aCons (vVar 6) (aNil)))
def y_l_bushy_2 (c : FN → List D → Hst → Res D) (g : Nat) : Sm :=
    sSeq (sSet 8 (vLc [5] (iRng1 (aCons (vB divD (vCall lenD (aCons (vVar 4) (aNil))) (vC (.int 2))) (aNil))) (gNm 5) (tsN) (vTup (aCons (vC (.str [97, 112, 112, 108, 121])) (aCons (vB ixD (vVar 4) (vB mulD (vC (.int 2)) (vVar 5))) (aCons (vB ixD (vVar 4) (vB addD (vB mulD (vC (.int 2)) (vVar 5)) (vC (.int 1)))) (aNil))))))) <|
    sSet 4 (vB addD (vVar 8) (vSl (vVar 4) (oS (vB mulD (vB divD (vCall lenD (aCons (vVar 4) (aNil))) (vC (.int 2))) (vC (.int 2)))) (oN)))
def b_l_bushy (c : FN → List D → Hst → Res D) (g : Nat) : Sm :=
    sSeq (sSet 1 (vF 2 (c .l_at) (aCons (vVar 0) (aCons (vC (.int 0)) (aNil))))) <|
    sSeq (sSet 2 (vB ixD (vLst (aCons (vC (.int 61)) (aCons (vC (.int 62)) (aCons (vB addD (vC (.int 61)) (vVar 1)) (aCons (vB subD (vC (.int 500)) (vVar 1)) (aCons (vB addD (vC (.int 125)) (vB mulD (vC (.int 5)) (vVar 1))) (aCons (vC (.int 333)) (aNil)))))))) (vB modD (vCall intC (aCons (vF 2 (c .l_at) (aCons (vVar 0) (aCons (vC (.int 1)) (aNil)))) (aNil))) (vC (.int 6))))) <|
    sSeq (sSet 3 (vB modD (vCall intC (aCons (vF 2 (c .l_at) (aCons (vVar 0) (aCons (vC (.int 2)) (aNil)))) (aNil))) (vC (.int 4)))) <|
    sSeq (sSet 4 (vLst (aNil))) <|
    sSeq (sFor (iRng1 (aCons (vVar 2) (aNil))) (gNm 5) (y_l_bushy_1 c g)) <|
    sSeq (sFor (iRng1 (aCons (vC (.int 9)) (aNil))) (gNm 7) (y_l_bushy_2 c g)) <|
    sRet (vB ixD (vVar 4) (vC (.int 0)))
def b_l_built (c : FN → List D → Hst → Res D) (g : Nat) : Sm :=
    sSeq (sSet 1 (vB modD (vCall intC (aCons (vF 2 (c .l_cell) (aCons (vVar 0) (aCons (vC (.int 0)) (aNil)))) (aNil))) (vC (.int 8)))) <|
    sSeq (sSet 2 (vF 3 (c .l_digits) (aCons (vF 2 (c .l_cell) (aCons (vVar 0) (aCons (vC (.int 1)) (aNil)))) (aCons (vC (.int 20)) (aCons (vC (.int 1)) (aNil)))))) <|
    sSeq (sIf (tV (vB ltD (vVar 1) (vC (.int 2)))) (sRet (vF 1 (c .l_nest) (aCons (vVar 2) (aNil)))) (sNil)) <|
    sSeq (sIf (tV (vB eqD (vVar 1) (vC (.int 2)))) (sSeq (sSet 3 (vCall intC (aCons (vF 2 (c .l_at) (aCons (vVar 2) (aCons (vC (.int 3)) (aNil)))) (aNil)))) <|
    sSeq (sSet 4 (vB ixD (vLst (aCons (vC (.int 60)) (aCons (vC (.int 61)) (aCons (vC (.int 59)) (aCons (vC (.int 61)) (aCons (vC (.int 60)) (aCons (vC (.int 62)) (aCons (vB addD (vC (.int 15)) (vVar 3)) (aCons (vB subD (vC (.int 99)) (vVar 3)) (aNil)))))))))) (vB modD (vCall intC (aCons (vF 2 (c .l_at) (aCons (vVar 2) (aCons (vC (.int 0)) (aNil)))) (aNil))) (vC (.int 8))))) <|
    sSeq (sSet 5 (vB modD (vB modD (vCall intC (aCons (vF 2 (c .l_at) (aCons (vVar 2) (aCons (vC (.int 1)) (aNil)))) (aNil))) (vC (.int 30))) (vB addD (vB divD (vVar 4) (vC (.int 2))) (vC (.int 1))))) <|
    sRet (vF 3 (c .l_chain) (aCons (vVar 4) (aCons (vVar 5) (aCons (vB eqD (vB modD (vCall intC (aCons (vF 2 (c .l_at) (aCons (vVar 2) (aCons (vC (.int 2)) (aNil)))) (aNil))) (vC (.int 2))) (vC (.int 1))) (aNil)))))) (sNil)) <|
    sSeq (sIf (tV (vB eqD (vVar 1) (vC (.int 3)))) (sRet (vF 1 (c .l_bushy) (aCons (vVar 2) (aNil)))) (sNil)) <|
    sRet (vB ixD (vF 2 (c .l_term) (aCons (vSl (vVar 2) (oN) (oS (vC (.int 15)))) (aCons (vB modD (vB divD (vCall intC (aCons (vF 2 (c .l_cell) (aCons (vVar 0) (aCons (vC (.int 0)) (aNil)))) (aNil))) (vC (.int 8))) (vC (.int 5))) (aNil)))) (vC (.int 0)))
def b_l_strings (c : FN → List D → Hst → Res D) (g : Nat) : Sm :=
    sSeq (sIf (tV (vB eqD (vB ixD (vVar 0) (vC (.int 0))) (vC (.str [97, 112, 112, 108, 121])))) (sRet (vB addD (vF 1 (c .l_strings) (aCons (vB ixD (vVar 0) (vC (.int 1))) (aNil))) (vF 1 (c .l_strings) (aCons (vB ixD (vVar 0) (vC (.int 2))) (aNil))))) (sNil)) <|
    sSeq (sIf (tV (vB eqD (vB ixD (vVar 0) (vC (.int 0))) (vC (.str [110, 97, 109, 101])))) (sRet (vLst (aCons (vB ixD (vVar 0) (vC (.int 1))) (aNil)))) (sNil)) <|
    sRet (vB addD (vLst (aCons (vB ixD (vVar 0) (vC (.int 1))) (aNil))) (vF 1 (c .l_strings) (aCons (vB ixD (vVar 0) (vC (.int 2))) (aNil))))
def b_l_dressed (c : FN → List D → Hst → Res D) (g : Nat) : Sm :=
    sSeq (sIf (tV (vB eqD (vB ixD (vVar 0) (vC (.int 0))) (vC (.str [97, 112, 112, 108, 121])))) (sSeq (sSet 2 (vF 2 (c .l_dressed) (aCons (vB ixD (vVar 0) (vC (.int 1))) (aCons (vVar 1) (aNil))))) <|
    sRet (vTup (aCons (vC (.str [97, 112, 112, 108, 121])) (aCons (vVar 2) (aCons (vF 2 (c .l_dressed) (aCons (vB ixD (vVar 0) (vC (.int 2))) (aCons (vVar 1) (aNil)))) (aNil)))))) (sNil)) <|
    sSeq (sSet 3 (vM .list popM (vVar 1) (aCons (vC (.int 0)) (aNil)))) <|
    sSeq (sIf (tV (vB eqD (vB ixD (vVar 0) (vC (.int 0))) (vC (.str [110, 97, 109, 101])))) (sRet (vTup (aCons (vC (.str [110, 97, 109, 101])) (aCons (vVar 3) (aNil))))) (sNil)) <|
    sRet (vTup (aCons (vC (.str [98, 105, 110, 100])) (aCons (vVar 3) (aCons (vF 2 (c .l_dressed) (aCons (vB ixD (vVar 0) (vC (.int 2))) (aCons (vVar 1) (aNil)))) (aNil)))))
def y_l_changed_1 (c : FN → List D → Hst → Res D) (g : Nat) : Sm :=
    sSeq (sSet 4 (vB addD (vVar 2) (vLst (aCons (vC (.str [113])) (aCons (vC (.str [118, 48])) (aCons (vC (.str [])) (aCons (vC (.str [88])) (aCons (vC (.str [49, 120])) (aCons (vC (.str [97, 50, 51, 52, 53, 54, 55, 56])) (aCons (vC (.str [97, 50, 51, 52, 53, 54, 55, 56, 57])) (aCons (vC (.str [120, 32, 121])) (aCons (vC (.str [113, 95])) (aCons (vC (.str [48])) (aNil)))))))))))))) <|
    sSeq (sSet 5 (vB modD (vCall intC (aCons (vF 2 (c .l_at) (aCons (vVar 1) (aCons (vB addD (vC (.int 1)) (vB mulD (vC (.int 5)) (vVar 3))) (aNil)))) (aNil))) (vC (.int 3)))) <|
    sSeq (sSet 6 (vB modD (vCall intC (aCons (vB addD (vB mulD (vC (.int 60)) (vF 2 (c .l_at) (aCons (vVar 1) (aCons (vB addD (vC (.int 2)) (vB mulD (vC (.int 5)) (vVar 3))) (aNil))))) (vF 2 (c .l_at) (aCons (vVar 1) (aCons (vB addD (vC (.int 3)) (vB mulD (vC (.int 5)) (vVar 3))) (aNil))))) (aNil))) (vCall lenD (aCons (vVar 2) (aNil))))) <|
    sSeq (sSet 7 (vCall intC (aCons (vB addD (vB mulD (vC (.int 60)) (vF 2 (c .l_at) (aCons (vVar 1) (aCons (vB addD (vC (.int 4)) (vB mulD (vC (.int 5)) (vVar 3))) (aNil))))) (vF 2 (c .l_at) (aCons (vVar 1) (aCons (vB addD (vC (.int 5)) (vB mulD (vC (.int 5)) (vVar 3))) (aNil))))) (aNil)))) <|
    sIf (tV (vB eqD (vVar 5) (vC (.int 2)))) (sSeq (sSet 7 (vB modD (vVar 7) (vCall lenD (aCons (vVar 2) (aNil))))) <|
    sSeq (sSet 8 (vB ixD (vVar 2) (vVar 6))) <|
    sSeq (sIx (vVar 2) (vVar 6) (vB ixD (vVar 2) (vVar 7))) <|
    sIx (vVar 2) (vVar 7) (vVar 8)) (sIx (vVar 2) (vVar 6) (vB ixD (vVar 4) (vB modD (vVar 7) (vCall lenD (aCons (vVar 4) (aNil))))))
def b_l_changed (c : FN → List D → Hst → Res D) (g : Nat) : Sm :=
    sSeq (sSet 2 (vCall listC (aCons (vVar 0) (aNil)))) <|
    sSeq (sFor (iRng1 (aCons (vB addD (vC (.int 1)) (vB modD (vCall intC (aCons (vF 2 (c .l_at) (aCons (vVar 1) (aCons (vC (.int 0)) (aNil)))) (aNil))) (vC (.int 2)))) (aNil))) (gNm 3) (y_l_changed_1 c g)) <|
    sRet (vVar 2)
def y_l_named_1 (c : FN → List D → Hst → Res D) (g : Nat) : Sm :=
    sIf (tAndE (tV (vB ninD (vB ixD (vVar 0) (vVar 2)) (vVar 1))) (tOrE (tV (vB eqD (vVar 2) (vC (.int 0)))) (tV (vB ninD (vB ixD (vVar 0) (vVar 2)) (vC (.str [48, 49, 50, 51, 52, 53, 54, 55, 56, 57])))))) (sRet (vC (.bl false))) (sNil)
def b_l_named (c : FN → List D → Hst → Res D) (g : Nat) : Sm :=
    sSeq (sSet 1 (vC (.str [97, 98, 99, 100, 101, 102, 103, 104, 105, 106, 107, 108, 109, 110, 111, 112, 113, 114, 115, 116, 117, 118, 119, 120, 121, 122]))) <|
    sSeq (sIf (tOrE (tV (vB ltD (vCall lenD (aCons (vVar 0) (aNil))) (vC (.int 1)))) (tV (vB gtD (vCall lenD (aCons (vVar 0) (aNil))) (vC (.int 8))))) (sRet (vC (.bl false))) (sNil)) <|
    sSeq (sFor (iRng1 (aCons (vCall lenD (aCons (vVar 0) (aNil))) (aNil))) (gNm 2) (y_l_named_1 c g)) <|
    sRet (vC (.bl true))
def b_l_events (c : FN → List D → Hst → Res D) (g : Nat) : Sm :=
    sSeq (sIf (tV (vB eqD (vB ixD (vVar 0) (vC (.int 0))) (vC (.str [97, 112, 112, 108, 121])))) (sRet (vB addD (vF 1 (c .l_events) (aCons (vB ixD (vVar 0) (vC (.int 1))) (aNil))) (vF 1 (c .l_events) (aCons (vB ixD (vVar 0) (vC (.int 2))) (aNil))))) (sNil)) <|
    sSeq (sIf (tV (vB eqD (vB ixD (vVar 0) (vC (.int 0))) (vC (.str [110, 97, 109, 101])))) (sRet (vLst (aCons (vTup (aCons (vC (.str [117, 115, 101])) (aCons (vB ixD (vVar 0) (vC (.int 1))) (aNil)))) (aNil)))) (sNil)) <|
    sRet (vB addD (vB addD (vLst (aCons (vTup (aCons (vC (.str [98, 105, 110, 100])) (aCons (vB ixD (vVar 0) (vC (.int 1))) (aNil)))) (aNil))) (vF 1 (c .l_events) (aCons (vB ixD (vVar 0) (vC (.int 2))) (aNil)))) (vLst (aCons (vTup (aCons (vC (.str [101, 110, 100])) (aCons (vB ixD (vVar 0) (vC (.int 1))) (aNil)))) (aNil))))
def b_l_nodes (c : FN → List D → Hst → Res D) (g : Nat) : Sm :=
    sSeq (sIf (tV (vB eqD (vB ixD (vVar 0) (vC (.int 0))) (vC (.str [110, 97, 109, 101])))) (sRet (vC (.int 0))) (sNil)) <|
    sSeq (sIf (tV (vB eqD (vB ixD (vVar 0) (vC (.int 0))) (vC (.str [98, 105, 110, 100])))) (sRet (vB addD (vC (.int 1)) (vF 1 (c .l_nodes) (aCons (vB ixD (vVar 0) (vC (.int 2))) (aNil))))) (sNil)) <|
    sRet (vB addD (vB addD (vC (.int 1)) (vF 1 (c .l_nodes) (aCons (vB ixD (vVar 0) (vC (.int 1))) (aNil)))) (vF 1 (c .l_nodes) (aCons (vB ixD (vVar 0) (vC (.int 2))) (aNil))))
def y_l_fault_1 (c : FN → List D → Hst → Res D) (g : Nat) : Sm :=
    sSeq (sSet 3 (vB ixD (vB ixD (vVar 1) (vVar 2)) (vC (.int 0)))) <|
    sSeq (sSet 4 (vB ixD (vB ixD (vVar 1) (vVar 2)) (vC (.int 1)))) <|
    sSeq (sIf (tAndE (tV (vB neD (vVar 3) (vC (.str [101, 110, 100])))) (tNotE (tTru (vF 1 (c .l_named) (aCons (vVar 4) (aNil)))))) (sRet (vTup (aCons (vC (.str [98, 97, 100])) (aCons (vVar 4) (aNil))))) (sNil)) <|
    sSeq (sIf (tAndE (tV (vB eqD (vVar 3) (vC (.str [117, 115, 101])))) (tV (vB inD (vTup (aCons (vC (.str [117, 115, 101])) (aCons (vVar 4) (aNil)))) (vSl (vVar 1) (oN) (oS (vVar 2)))))) (sRet (vTup (aCons (vC (.str [114, 101, 112, 101, 97, 116, 101, 100])) (aCons (vVar 4) (aNil))))) (sNil)) <|
    sSeq (sIf (tAndE (tV (vB eqD (vVar 3) (vC (.str [98, 105, 110, 100])))) (tOrE (tV (vB inD (vTup (aCons (vC (.str [117, 115, 101])) (aCons (vVar 4) (aNil)))) (vSl (vVar 1) (oN) (oS (vVar 2))))) (tV (vB inD (vTup (aCons (vC (.str [98, 105, 110, 100])) (aCons (vVar 4) (aNil)))) (vSl (vVar 1) (oN) (oS (vVar 2))))))) (sRet (vTup (aCons (vC (.str [114, 101, 112, 101, 97, 116, 101, 100])) (aCons (vVar 4) (aNil))))) (sNil)) <|
    sIf (tAndE (tV (vB eqD (vVar 3) (vC (.str [101, 110, 100])))) (tV (vB ninD (vTup (aCons (vC (.str [117, 115, 101])) (aCons (vVar 4) (aNil)))) (vSl (vVar 1) (oS (vM .list indexM (vVar 1) (aCons (vTup (aCons (vC (.str [98, 105, 110, 100])) (aCons (vVar 4) (aNil)))) (aNil)))) (oS (vVar 2)))))) (sRet (vTup (aCons (vC (.str [117, 110, 117, 115, 101, 100])) (aCons (vVar 4) (aNil))))) (sNil)
def b_l_fault (c : FN → List D → Hst → Res D) (g : Nat) : Sm :=
    sSeq (sIf (tV (vB gtD (vF 1 (c .l_nodes) (aCons (vVar 0) (aNil))) (vC (.int 60)))) (sRet (vTup (aCons (vC (.str [108, 97, 114, 103, 101])) (aCons (vC (.str [])) (aNil))))) (sNil)) <|
    sSeq (sSet 1 (vF 1 (c .l_events) (aCons (vVar 0) (aNil)))) <|
    sSeq (sFor (iRng1 (aCons (vCall lenD (aCons (vVar 1) (aNil))) (aNil))) (gNm 2) (y_l_fault_1 c g)) <|
    sRet (vTup (aCons (vC (.str [110, 111, 110, 101])) (aCons (vC (.str [])) (aNil))))
def b_l_due (c : FN → List D → Hst → Res D) (g : Nat) : Sm :=
    sSeq (sSet 1 (vF 1 (c .l_fault) (aCons (vVar 0) (aNil)))) <|
    sSeq (sIf (tV (vB eqD (vB ixD (vVar 1) (vC (.int 0))) (vC (.str [110, 111, 110, 101])))) (sRet (vTup (aCons (vC (.str [116, 111, 108, 100])) (aCons (vF 1 (c .l_nodes) (aCons (vVar 0) (aNil))) (aNil))))) (sNil)) <|
    sSeq (sSet 2 (vLst (aCons (vB eqD (vB ixD (vVar 1) (vC (.int 0))) (vC (.str [98, 97, 100]))) (aCons (vB eqD (vB ixD (vVar 1) (vC (.int 0))) (vC (.str [114, 101, 112, 101, 97, 116, 101, 100]))) (aCons (vB eqD (vB ixD (vVar 1) (vC (.int 0))) (vC (.str [117, 110, 117, 115, 101, 100]))) (aCons (vC (.bl false)) (aNil))))))) <|
    sRet (vTup (aCons (vC (.str [114, 101, 102, 117, 115, 101, 100])) (aCons (vB addD (vVar 2) (vLst (aCons (vB neD (vB ixD (vVar 1) (vC (.int 0))) (vC (.str [108, 97, 114, 103, 101]))) (aCons (vB eqD (vB ixD (vVar 1) (vC (.int 0))) (vC (.str [108, 97, 114, 103, 101]))) (aCons (vC (.bl true)) (aNil)))))) (aCons (vB ixD (vVar 1) (vC (.int 1))) (aNil)))))
def b_l_told (c : FN → List D → Hst → Res D) (g : Nat) : Sm :=
    sTry xt "DrawnonceError" (some 1) (sRet (vTup (aCons (vC (.str [116, 111, 108, 100])) (aCons (vF 1 (c .check_term) (aCons (vVar 0) (aNil))) (aNil))))) (sSeq (sSet 2 (vLst (aCons (vIsX xt 1 "BadName") (aCons (vIsX xt 1 "Repeated") (aCons (vIsX xt 1 "Unused") (aCons (vIsX xt 1 "UnknownName") (aNil))))))) <|
    sSeq (sSet 2 (vB addD (vVar 2) (vLst (aCons (vIsX xt 1 "NameFault") (aCons (vIsX xt 1 "TooLarge") (aCons (vIsXB xt 1 "ValueError") (aNil))))))) <|
    sSeq (sIf (tTru (vIsX xt 1 "NameFault")) (sRet (vTup (aCons (vC (.str [114, 101, 102, 117, 115, 101, 100])) (aCons (vVar 2) (aCons (vXf xt 1 "name") (aNil)))))) (sNil)) <|
    sRet (vTup (aCons (vC (.str [114, 101, 102, 117, 115, 101, 100])) (aCons (vVar 2) (aCons (vC (.str [])) (aNil))))))
def y_f_law_1 (c : FN → List D → Hst → Res D) (g : Nat) : Sm :=
    sIf (tNotE (tTru (vF 2 (c .l_same) (aCons (vF 1 (c .l_told) (aCons (vVar 4) (aNil))) (aCons (vF 1 (c .l_due) (aCons (vVar 4) (aNil))) (aNil)))))) (sRet (vC (.bl false))) (sNil)
def z_f_law_1 (c : FN → List D → Hst → Res D) (g : Nat) : Sm :=
    sSet 1 (vF 1 (c .l_built) (aCons (vVar 0) (aNil)))
def z_f_law_2 (c : FN → List D → Hst → Res D) (g : Nat) : Sm :=
    sSet 2 (vF 2 (c .l_changed) (aCons (vF 1 (c .l_strings) (aCons (vVar 1) (aNil))) (aCons (vF 3 (c .l_digits) (aCons (vF 2 (c .l_cell) (aCons (vVar 0) (aCons (vC (.int 2)) (aNil)))) (aCons (vC (.int 11)) (aCons (vC (.int 2)) (aNil))))) (aNil))))
def z_f_law_3 (c : FN → List D → Hst → Res D) (g : Nat) : Sm :=
    sSet 3 (vF 2 (c .l_dressed) (aCons (vVar 1) (aCons (vCall listC (aCons (vVar 2) (aNil))) (aNil))))
def z_f_law_4 (c : FN → List D → Hst → Res D) (g : Nat) : Sm :=
    sFor (iSeq (vLst (aCons (vVar 1) (aCons (vVar 3) (aCons (vVar 1) (aNil)))))) (gNm 4) (y_f_law_1 c g)
def z_f_law_5 (c : FN → List D → Hst → Res D) (g : Nat) : Sm :=
    sRet (vC (.bl true))
def b_f_law (c : FN → List D → Hst → Res D) (g : Nat) : Sm :=
    sSeq (z_f_law_1 c g) <|
    sSeq (z_f_law_2 c g) <|
    sSeq (z_f_law_3 c g) <|
    sSeq (z_f_law_4 c g) <|
    z_f_law_5 c g
def body (c : FN → List D → Hst → Res D) (g : Nat) : FN → Sm
  | .is_name => b_is_name c g
  | .below => b_below c g
  | .parts => b_parts c g
  | .size => b_size c g
  | .check_part => b_check_part c g
  | .check_term => b_check_term c g
  | .l_cell => b_l_cell c g
  | .l_at => b_l_at c g
  | .l_same => b_l_same c g
  | .l_digits => b_l_digits c g
  | .l_name => b_l_name c g
  | .l_term => b_l_term c g
  | .l_nest => b_l_nest c g
  | .l_chain => b_l_chain c g
  | .l_bushy => b_l_bushy c g
  | .l_built => b_l_built c g
  | .l_strings => b_l_strings c g
  | .l_dressed => b_l_dressed c g
  | .l_changed => b_l_changed c g
  | .l_named => b_l_named c g
  | .l_events => b_l_events c g
  | .l_nodes => b_l_nodes c g
  | .l_fault => b_l_fault c g
  | .l_due => b_l_due c g
  | .l_told => b_l_told c g
  | .f_law => b_f_law c g
def ns : FN → Nat
  | .is_name => 2
  | .below => 1
  | .parts => 4
  | .size => 2
  | .check_part => 3
  | .check_term => 2
  | .l_cell => 2
  | .l_at => 2
  | .l_same => 3
  | .l_digits => 7
  | .l_name => 2
  | .l_term => 10
  | .l_nest => 8
  | .l_chain => 5
  | .l_bushy => 9
  | .l_built => 6
  | .l_strings => 1
  | .l_dressed => 4
  | .l_changed => 9
  | .l_named => 3
  | .l_events => 1
  | .l_nodes => 1
  | .l_fault => 5
  | .l_due => 3
  | .l_told => 3
  | .f_law => 5
/-- a call, at most n deep; a while loop turns g times at most -/
def callF (g : Nat) : Nat → FN → List D → Hst → Res D
  | 0, _, _, _ => .bad
  | n + 1, f, ds, h => runF (ns f) (body (callF g n) g f) ds h
end Run
/-! ### the defs as they stand in the text -/
def d_is_name : He.DefD := ⟨("is_name", none), "is_name", "is_name", defArgs (tp 12), defBody (tp 12), defScope (tp 12), [], []⟩
abbrev nm_is_name : List Str := ["text", "char"]
abbrev ps_is_name : List Str := ["text"]
theorem sc_is_name : FnScope nm_is_name ps_is_name (d_is_name.scope) := ⟨rfl, rfl, rfl, by decide +kernel, rfl, by decide +kernel, by decide +kernel⟩
def d_below : He.DefD := ⟨("below", none), "below", "below", defArgs (tp 15), defBody (tp 15), defScope (tp 15), [], []⟩
abbrev nm_below : List Str := ["part"]
abbrev ps_below : List Str := ["part"]
theorem sc_below : FnScope nm_below ps_below (d_below.scope) := ⟨rfl, rfl, rfl, by decide +kernel, rfl, by decide +kernel, by decide +kernel⟩
def d_parts : He.DefD := ⟨("parts", none), "parts", "parts", defArgs (tp 16), defBody (tp 16), defScope (tp 16), [], []⟩
abbrev nm_parts : List Str := ["term", "found", "waiting", "part"]
abbrev ps_parts : List Str := ["term"]
theorem sc_parts : FnScope nm_parts ps_parts (d_parts.scope) := ⟨rfl, rfl, rfl, by decide +kernel, rfl, by decide +kernel, by decide +kernel⟩
def d_size : He.DefD := ⟨("size", none), "size", "size", defArgs (tp 17), defBody (tp 17), defScope (tp 17), [], []⟩
abbrev nm_size : List Str := ["term", "part"]
abbrev ps_size : List Str := ["term"]
theorem sc_size : FnScope nm_size ps_size (d_size.scope) := ⟨rfl, rfl, rfl, by decide +kernel, rfl, by decide +kernel, by decide +kernel⟩
def d_check_part : He.DefD := ⟨("check_part", none), "check_part", "check_part", defArgs (tp 18), defBody (tp 18), defScope (tp 18), [], []⟩
abbrev nm_check_part : List Str := ["part", "seen", "name"]
abbrev ps_check_part : List Str := ["part", "seen"]
theorem sc_check_part : FnScope nm_check_part ps_check_part (d_check_part.scope) := ⟨rfl, rfl, rfl, by decide +kernel, rfl, by decide +kernel, by decide +kernel⟩
def d_check_term : He.DefD := ⟨("check_term", none), "check_term", "check_term", defArgs (tp 19), defBody (tp 19), defScope (tp 19), [], []⟩
abbrev nm_check_term : List Str := ["term", "nodes"]
abbrev ps_check_term : List Str := ["term"]
theorem sc_check_term : FnScope nm_check_term ps_check_term (d_check_term.scope) := ⟨rfl, rfl, rfl, by decide +kernel, rfl, by decide +kernel, by decide +kernel⟩
def d_l_cell : He.DefD := ⟨("_law_cell", none), "_law_cell", "_law_cell", defArgs (tp 21), defBody (tp 21), defScope (tp 21), [], []⟩
abbrev nm_l_cell : List Str := ["script", "k"]
abbrev ps_l_cell : List Str := ["script", "k"]
theorem sc_l_cell : FnScope nm_l_cell ps_l_cell (d_l_cell.scope) := ⟨rfl, rfl, rfl, by decide +kernel, rfl, by decide +kernel, by decide +kernel⟩
def d_l_at : He.DefD := ⟨("_law_at", none), "_law_at", "_law_at", defArgs (tp 22), defBody (tp 22), defScope (tp 22), [], []⟩
abbrev nm_l_at : List Str := ["digits", "k"]
abbrev ps_l_at : List Str := ["digits", "k"]
theorem sc_l_at : FnScope nm_l_at ps_l_at (d_l_at.scope) := ⟨rfl, rfl, rfl, by decide +kernel, rfl, by decide +kernel, by decide +kernel⟩
def d_l_same : He.DefD := ⟨("_law_same", none), "_law_same", "_law_same", defArgs (tp 23), defBody (tp 23), defScope (tp 23), [], []⟩
abbrev nm_l_same : List Str := ["told", "due", "k"]
abbrev ps_l_same : List Str := ["told", "due"]
theorem sc_l_same : FnScope nm_l_same ps_l_same (d_l_same.scope) := ⟨rfl, rfl, rfl, by decide +kernel, rfl, by decide +kernel, by decide +kernel⟩
def d_l_digits : He.DefD := ⟨("_law_digits", none), "_law_digits", "_law_digits", defArgs (tp 24), defBody (tp 24), defScope (tp 24), [], []⟩
abbrev nm_l_digits : List Str := ["cell", "many", "salt", "found", "rest", "k", "mixed"]
abbrev ps_l_digits : List Str := ["cell", "many", "salt"]
theorem sc_l_digits : FnScope nm_l_digits ps_l_digits (d_l_digits.scope) := ⟨rfl, rfl, rfl, by decide +kernel, rfl, by decide +kernel, by decide +kernel⟩
def d_l_name : He.DefD := ⟨("_law_name", none), "_law_name", "_law_name", defArgs (tp 25), defBody (tp 25), defScope (tp 25), [], []⟩
abbrev nm_l_name : List Str := ["k", "style"]
abbrev ps_l_name : List Str := ["k", "style"]
theorem sc_l_name : FnScope nm_l_name ps_l_name (d_l_name.scope) := ⟨rfl, rfl, rfl, by decide +kernel, rfl, by decide +kernel, by decide +kernel⟩
def d_l_term : He.DefD := ⟨("_law_term", none), "_law_term", "_law_term", defArgs (tp 26), defBody (tp 26), defScope (tp 26), [], []⟩
abbrev nm_l_term : List Str := ["digits", "style", "piled", "used", "digit", "last", "prior", "chosen", "one", "k"]
abbrev ps_l_term : List Str := ["digits", "style"]
theorem sc_l_term : FnScope nm_l_term ps_l_term (d_l_term.scope) := ⟨rfl, rfl, rfl, by decide +kernel, rfl, by decide +kernel, by decide +kernel⟩
def d_l_nest : He.DefD := ⟨("_law_nest", none), "_law_nest", "_law_nest", defArgs (tp 27), defBody (tp 27), defScope (tp 27), [], []⟩
abbrev nm_l_nest : List Str := ["digits", "menu", "piled", "digit", "word", "last", "prior", "k"]
abbrev ps_l_nest : List Str := ["digits"]
theorem sc_l_nest : FnScope nm_l_nest ps_l_nest (d_l_nest.scope) := ⟨rfl, rfl, rfl, by decide +kernel, rfl, by decide +kernel, by decide +kernel⟩
def d_l_chain : He.DefD := ⟨("_law_chain", none), "_law_chain", "_law_chain", defArgs (tp 28), defBody (tp 28), defScope (tp 28), [], []⟩
abbrev nm_l_chain : List Str := ["nodes", "bound", "leaning", "nest", "k"]
abbrev ps_l_chain : List Str := ["nodes", "bound", "leaning"]
theorem sc_l_chain : FnScope nm_l_chain ps_l_chain (d_l_chain.scope) := ⟨rfl, rfl, rfl, by decide +kernel, rfl, by decide +kernel, by decide +kernel⟩
def d_l_bushy : He.DefD := ⟨("_law_bushy", none), "_law_bushy", "_law_bushy", defArgs (tp 29), defBody (tp 29), defScope (tp 29), [], []⟩
abbrev nm_l_bushy : List Str := ["digits", "first", "many", "stride", "row", "k", "leaf", "turn", "pairs"]
abbrev ps_l_bushy : List Str := ["digits"]
theorem sc_l_bushy : FnScope nm_l_bushy ps_l_bushy (d_l_bushy.scope) := ⟨rfl, rfl, rfl, by decide +kernel, rfl, by decide +kernel, by decide +kernel⟩
def d_l_built : He.DefD := ⟨("_law_built", none), "_law_built", "_law_built", defArgs (tp 30), defBody (tp 30), defScope (tp 30), [], []⟩
abbrev nm_l_built : List Str := ["script", "mode", "digits", "more", "nodes", "bound"]
abbrev ps_l_built : List Str := ["script"]
theorem sc_l_built : FnScope nm_l_built ps_l_built (d_l_built.scope) := ⟨rfl, rfl, rfl, by decide +kernel, rfl, by decide +kernel, by decide +kernel⟩
def d_l_strings : He.DefD := ⟨("_law_strings", none), "_law_strings", "_law_strings", defArgs (tp 31), defBody (tp 31), defScope (tp 31), [], []⟩
abbrev nm_l_strings : List Str := ["part"]
abbrev ps_l_strings : List Str := ["part"]
theorem sc_l_strings : FnScope nm_l_strings ps_l_strings (d_l_strings.scope) := ⟨rfl, rfl, rfl, by decide +kernel, rfl, by decide +kernel, by decide +kernel⟩
def d_l_dressed : He.DefD := ⟨("_law_dressed", none), "_law_dressed", "_law_dressed", defArgs (tp 32), defBody (tp 32), defScope (tp 32), [], []⟩
abbrev nm_l_dressed : List Str := ["part", "row", "left", "word"]
abbrev ps_l_dressed : List Str := ["part", "row"]
theorem sc_l_dressed : FnScope nm_l_dressed ps_l_dressed (d_l_dressed.scope) := ⟨rfl, rfl, rfl, by decide +kernel, rfl, by decide +kernel, by decide +kernel⟩
def d_l_changed : He.DefD := ⟨("_law_changed", none), "_law_changed", "_law_changed", defArgs (tp 33), defBody (tp 33), defScope (tp 33), [], []⟩
abbrev nm_l_changed : List Str := ["row", "digits", "found", "k", "menu", "kind", "one", "other", "word"]
abbrev ps_l_changed : List Str := ["row", "digits"]
theorem sc_l_changed : FnScope nm_l_changed ps_l_changed (d_l_changed.scope) := ⟨rfl, rfl, rfl, by decide +kernel, rfl, by decide +kernel, by decide +kernel⟩
def d_l_named : He.DefD := ⟨("_law_named", none), "_law_named", "_law_named", defArgs (tp 34), defBody (tp 34), defScope (tp 34), [], []⟩
abbrev nm_l_named : List Str := ["text", "letters", "k"]
abbrev ps_l_named : List Str := ["text"]
theorem sc_l_named : FnScope nm_l_named ps_l_named (d_l_named.scope) := ⟨rfl, rfl, rfl, by decide +kernel, rfl, by decide +kernel, by decide +kernel⟩
def d_l_events : He.DefD := ⟨("_law_events", none), "_law_events", "_law_events", defArgs (tp 35), defBody (tp 35), defScope (tp 35), [], []⟩
abbrev nm_l_events : List Str := ["part"]
abbrev ps_l_events : List Str := ["part"]
theorem sc_l_events : FnScope nm_l_events ps_l_events (d_l_events.scope) := ⟨rfl, rfl, rfl, by decide +kernel, rfl, by decide +kernel, by decide +kernel⟩
def d_l_nodes : He.DefD := ⟨("_law_nodes", none), "_law_nodes", "_law_nodes", defArgs (tp 36), defBody (tp 36), defScope (tp 36), [], []⟩
abbrev nm_l_nodes : List Str := ["part"]
abbrev ps_l_nodes : List Str := ["part"]
theorem sc_l_nodes : FnScope nm_l_nodes ps_l_nodes (d_l_nodes.scope) := ⟨rfl, rfl, rfl, by decide +kernel, rfl, by decide +kernel, by decide +kernel⟩
def d_l_fault : He.DefD := ⟨("_law_fault", none), "_law_fault", "_law_fault", defArgs (tp 37), defBody (tp 37), defScope (tp 37), [], []⟩
abbrev nm_l_fault : List Str := ["nest", "events", "k", "kind", "word"]
abbrev ps_l_fault : List Str := ["nest"]
theorem sc_l_fault : FnScope nm_l_fault ps_l_fault (d_l_fault.scope) := ⟨rfl, rfl, rfl, by decide +kernel, rfl, by decide +kernel, by decide +kernel⟩
def d_l_due : He.DefD := ⟨("_law_due", none), "_law_due", "_law_due", defArgs (tp 38), defBody (tp 38), defScope (tp 38), [], []⟩
abbrev nm_l_due : List Str := ["nest", "fault", "flags"]
abbrev ps_l_due : List Str := ["nest"]
theorem sc_l_due : FnScope nm_l_due ps_l_due (d_l_due.scope) := ⟨rfl, rfl, rfl, by decide +kernel, rfl, by decide +kernel, by decide +kernel⟩
def d_l_told : He.DefD := ⟨("_law_told", none), "_law_told", "_law_told", defArgs (tp 39), defBody (tp 39), defScope (tp 39), [], []⟩
abbrev nm_l_told : List Str := ["nest", "e", "flags"]
abbrev ps_l_told : List Str := ["nest"]
theorem sc_l_told : FnScope nm_l_told ps_l_told (d_l_told.scope) := ⟨rfl, rfl, rfl, by decide +kernel, rfl, by decide +kernel, by decide +kernel⟩
def d_f_law : He.DefD := ⟨("law", none), "law", "law", defArgs (tp 40), defBody (tp 40), defScope (tp 40), [], []⟩
abbrev nm_f_law : List Str := ["script", "nest", "row", "changed", "one"]
abbrev ps_f_law : List Str := ["script"]
theorem sc_f_law : FnScope nm_f_law ps_f_law (d_f_law.scope) := ⟨rfl, rfl, rfl, by decide +kernel, rfl, by decide +kernel, by decide +kernel⟩
def dOf : FN → He.DefD
  | .is_name => d_is_name
  | .below => d_below
  | .parts => d_parts
  | .size => d_size
  | .check_part => d_check_part
  | .check_term => d_check_term
  | .l_cell => d_l_cell
  | .l_at => d_l_at
  | .l_same => d_l_same
  | .l_digits => d_l_digits
  | .l_name => d_l_name
  | .l_term => d_l_term
  | .l_nest => d_l_nest
  | .l_chain => d_l_chain
  | .l_bushy => d_l_bushy
  | .l_built => d_l_built
  | .l_strings => d_l_strings
  | .l_dressed => d_l_dressed
  | .l_changed => d_l_changed
  | .l_named => d_l_named
  | .l_events => d_l_events
  | .l_nodes => d_l_nodes
  | .l_fault => d_l_fault
  | .l_due => d_l_due
  | .l_told => d_l_told
  | .f_law => d_f_law
def psOf : FN → List Str
  | .is_name => ps_is_name
  | .below => ps_below
  | .parts => ps_parts
  | .size => ps_size
  | .check_part => ps_check_part
  | .check_term => ps_check_term
  | .l_cell => ps_l_cell
  | .l_at => ps_l_at
  | .l_same => ps_l_same
  | .l_digits => ps_l_digits
  | .l_name => ps_l_name
  | .l_term => ps_l_term
  | .l_nest => ps_l_nest
  | .l_chain => ps_l_chain
  | .l_bushy => ps_l_bushy
  | .l_built => ps_l_built
  | .l_strings => ps_l_strings
  | .l_dressed => ps_l_dressed
  | .l_changed => ps_l_changed
  | .l_named => ps_l_named
  | .l_events => ps_l_events
  | .l_nodes => ps_l_nodes
  | .l_fault => ps_l_fault
  | .l_due => ps_l_due
  | .l_told => ps_l_told
  | .f_law => ps_f_law
structure Top (P : Program) (K : PySem.W.Frag) (mg : Str → Option Value) : Prop where
  z_ValueError : mg "ValueError" = none
  z_abs : mg "abs" = none
  z_bool : mg "bool" = none
  z_int : mg "int" = none
  z_isinstance : mg "isinstance" = none
  z_len : mg "len" = none
  z_list : mg "list" = none
  z_range : mg "range" = none
  z_str : mg "str" = none
  z_super : mg "super" = none
  z_tuple : mg "tuple" = none
  g_DIGITS : ∃ t, mg "DIGITS" = some (.str "0123456789" t)
  g_LETTERS : ∃ t, mg "LETTERS" = some (.str "abcdefghijklmnopqrstuvwxyz" t)
  g_LONGEST : ∃ t, mg "LONGEST" = some (.int (8) t)
  g_MOST_NODES : ∃ t, mg "MOST_NODES" = some (.int (60) t)
  k_DrawnonceError : mg "DrawnonceError" = some (.ref (He.ga K "DrawnonceError"))
  k_NameFault : mg "NameFault" = some (.ref (He.ga K "NameFault"))
  k_BadName : mg "BadName" = some (.ref (He.ga K "BadName"))
  k_Repeated : mg "Repeated" = some (.ref (He.ga K "Repeated"))
  k_Unused : mg "Unused" = some (.ref (He.ga K "Unused"))
  k_UnknownName : mg "UnknownName" = some (.ref (He.ga K "UnknownName"))
  k_TooLarge : mg "TooLarge" = some (.ref (He.ga K "TooLarge"))
  s_BadName : PySem.Supname.Txt P K (He.ga K "BadName") (He.ma K (He.ga K "BadName") "__init__") (He.suC K "BadName").1 (He.suC K "BadName").2.1 (He.suC K "BadName").2.2
  s_Repeated : PySem.Supname.Txt P K (He.ga K "Repeated") (He.ma K (He.ga K "Repeated") "__init__") (He.suC K "Repeated").1 (He.suC K "Repeated").2.1 (He.suC K "Repeated").2.2
  s_Unused : PySem.Supname.Txt P K (He.ga K "Unused") (He.ma K (He.ga K "Unused") "__init__") (He.suC K "Unused").1 (He.suC K "Unused").2.1 (He.suC K "Unused").2.2
  e_TooLarge : (He.Fa.exc "TooLarge").ok K = true
  xok : XOk xt K
  f_is_name : mg "is_name" = some (.ref (He.fAd K d_is_name.at_))
  t_is_name : ∃ fd, FunD K d_is_name.name d_is_name.qual d_is_name.params d_is_name.body d_is_name.scope (d_is_name.dvs K) (d_is_name.kws K) (He.fAd K d_is_name.at_) fd
  f_below : mg "below" = some (.ref (He.fAd K d_below.at_))
  t_below : ∃ fd, FunD K d_below.name d_below.qual d_below.params d_below.body d_below.scope (d_below.dvs K) (d_below.kws K) (He.fAd K d_below.at_) fd
  f_parts : mg "parts" = some (.ref (He.fAd K d_parts.at_))
  t_parts : ∃ fd, FunD K d_parts.name d_parts.qual d_parts.params d_parts.body d_parts.scope (d_parts.dvs K) (d_parts.kws K) (He.fAd K d_parts.at_) fd
  f_size : mg "size" = some (.ref (He.fAd K d_size.at_))
  t_size : ∃ fd, FunD K d_size.name d_size.qual d_size.params d_size.body d_size.scope (d_size.dvs K) (d_size.kws K) (He.fAd K d_size.at_) fd
  f_check_part : mg "check_part" = some (.ref (He.fAd K d_check_part.at_))
  t_check_part : ∃ fd, FunD K d_check_part.name d_check_part.qual d_check_part.params d_check_part.body d_check_part.scope (d_check_part.dvs K) (d_check_part.kws K) (He.fAd K d_check_part.at_) fd
  f_check_term : mg "check_term" = some (.ref (He.fAd K d_check_term.at_))
  t_check_term : ∃ fd, FunD K d_check_term.name d_check_term.qual d_check_term.params d_check_term.body d_check_term.scope (d_check_term.dvs K) (d_check_term.kws K) (He.fAd K d_check_term.at_) fd
  f_l_cell : mg "_law_cell" = some (.ref (He.fAd K d_l_cell.at_))
  t_l_cell : ∃ fd, FunD K d_l_cell.name d_l_cell.qual d_l_cell.params d_l_cell.body d_l_cell.scope (d_l_cell.dvs K) (d_l_cell.kws K) (He.fAd K d_l_cell.at_) fd
  f_l_at : mg "_law_at" = some (.ref (He.fAd K d_l_at.at_))
  t_l_at : ∃ fd, FunD K d_l_at.name d_l_at.qual d_l_at.params d_l_at.body d_l_at.scope (d_l_at.dvs K) (d_l_at.kws K) (He.fAd K d_l_at.at_) fd
  f_l_same : mg "_law_same" = some (.ref (He.fAd K d_l_same.at_))
  t_l_same : ∃ fd, FunD K d_l_same.name d_l_same.qual d_l_same.params d_l_same.body d_l_same.scope (d_l_same.dvs K) (d_l_same.kws K) (He.fAd K d_l_same.at_) fd
  f_l_digits : mg "_law_digits" = some (.ref (He.fAd K d_l_digits.at_))
  t_l_digits : ∃ fd, FunD K d_l_digits.name d_l_digits.qual d_l_digits.params d_l_digits.body d_l_digits.scope (d_l_digits.dvs K) (d_l_digits.kws K) (He.fAd K d_l_digits.at_) fd
  f_l_name : mg "_law_name" = some (.ref (He.fAd K d_l_name.at_))
  t_l_name : ∃ fd, FunD K d_l_name.name d_l_name.qual d_l_name.params d_l_name.body d_l_name.scope (d_l_name.dvs K) (d_l_name.kws K) (He.fAd K d_l_name.at_) fd
  f_l_term : mg "_law_term" = some (.ref (He.fAd K d_l_term.at_))
  t_l_term : ∃ fd, FunD K d_l_term.name d_l_term.qual d_l_term.params d_l_term.body d_l_term.scope (d_l_term.dvs K) (d_l_term.kws K) (He.fAd K d_l_term.at_) fd
  f_l_nest : mg "_law_nest" = some (.ref (He.fAd K d_l_nest.at_))
  t_l_nest : ∃ fd, FunD K d_l_nest.name d_l_nest.qual d_l_nest.params d_l_nest.body d_l_nest.scope (d_l_nest.dvs K) (d_l_nest.kws K) (He.fAd K d_l_nest.at_) fd
  f_l_chain : mg "_law_chain" = some (.ref (He.fAd K d_l_chain.at_))
  t_l_chain : ∃ fd, FunD K d_l_chain.name d_l_chain.qual d_l_chain.params d_l_chain.body d_l_chain.scope (d_l_chain.dvs K) (d_l_chain.kws K) (He.fAd K d_l_chain.at_) fd
  f_l_bushy : mg "_law_bushy" = some (.ref (He.fAd K d_l_bushy.at_))
  t_l_bushy : ∃ fd, FunD K d_l_bushy.name d_l_bushy.qual d_l_bushy.params d_l_bushy.body d_l_bushy.scope (d_l_bushy.dvs K) (d_l_bushy.kws K) (He.fAd K d_l_bushy.at_) fd
  f_l_built : mg "_law_built" = some (.ref (He.fAd K d_l_built.at_))
  t_l_built : ∃ fd, FunD K d_l_built.name d_l_built.qual d_l_built.params d_l_built.body d_l_built.scope (d_l_built.dvs K) (d_l_built.kws K) (He.fAd K d_l_built.at_) fd
  f_l_strings : mg "_law_strings" = some (.ref (He.fAd K d_l_strings.at_))
  t_l_strings : ∃ fd, FunD K d_l_strings.name d_l_strings.qual d_l_strings.params d_l_strings.body d_l_strings.scope (d_l_strings.dvs K) (d_l_strings.kws K) (He.fAd K d_l_strings.at_) fd
  f_l_dressed : mg "_law_dressed" = some (.ref (He.fAd K d_l_dressed.at_))
  t_l_dressed : ∃ fd, FunD K d_l_dressed.name d_l_dressed.qual d_l_dressed.params d_l_dressed.body d_l_dressed.scope (d_l_dressed.dvs K) (d_l_dressed.kws K) (He.fAd K d_l_dressed.at_) fd
  f_l_changed : mg "_law_changed" = some (.ref (He.fAd K d_l_changed.at_))
  t_l_changed : ∃ fd, FunD K d_l_changed.name d_l_changed.qual d_l_changed.params d_l_changed.body d_l_changed.scope (d_l_changed.dvs K) (d_l_changed.kws K) (He.fAd K d_l_changed.at_) fd
  f_l_named : mg "_law_named" = some (.ref (He.fAd K d_l_named.at_))
  t_l_named : ∃ fd, FunD K d_l_named.name d_l_named.qual d_l_named.params d_l_named.body d_l_named.scope (d_l_named.dvs K) (d_l_named.kws K) (He.fAd K d_l_named.at_) fd
  f_l_events : mg "_law_events" = some (.ref (He.fAd K d_l_events.at_))
  t_l_events : ∃ fd, FunD K d_l_events.name d_l_events.qual d_l_events.params d_l_events.body d_l_events.scope (d_l_events.dvs K) (d_l_events.kws K) (He.fAd K d_l_events.at_) fd
  f_l_nodes : mg "_law_nodes" = some (.ref (He.fAd K d_l_nodes.at_))
  t_l_nodes : ∃ fd, FunD K d_l_nodes.name d_l_nodes.qual d_l_nodes.params d_l_nodes.body d_l_nodes.scope (d_l_nodes.dvs K) (d_l_nodes.kws K) (He.fAd K d_l_nodes.at_) fd
  f_l_fault : mg "_law_fault" = some (.ref (He.fAd K d_l_fault.at_))
  t_l_fault : ∃ fd, FunD K d_l_fault.name d_l_fault.qual d_l_fault.params d_l_fault.body d_l_fault.scope (d_l_fault.dvs K) (d_l_fault.kws K) (He.fAd K d_l_fault.at_) fd
  f_l_due : mg "_law_due" = some (.ref (He.fAd K d_l_due.at_))
  t_l_due : ∃ fd, FunD K d_l_due.name d_l_due.qual d_l_due.params d_l_due.body d_l_due.scope (d_l_due.dvs K) (d_l_due.kws K) (He.fAd K d_l_due.at_) fd
  f_l_told : mg "_law_told" = some (.ref (He.fAd K d_l_told.at_))
  t_l_told : ∃ fd, FunD K d_l_told.name d_l_told.qual d_l_told.params d_l_told.body d_l_told.scope (d_l_told.dvs K) (d_l_told.kws K) (He.fAd K d_l_told.at_) fd
  f_f_law : mg "law" = some (.ref (He.fAd K d_f_law.at_))
  t_f_law : ∃ fd, FunD K d_f_law.name d_f_law.qual d_f_law.params d_f_law.body d_f_law.scope (d_f_law.dvs K) (d_f_law.kws K) (He.fAd K d_f_law.at_) fd
section
variable {P : Program} {w : World} {K : PySem.W.Frag} {mg : Str → Option Value} {base : Heap} {n : Nat}
abbrev FnA (P : Program) (w : World) (K : PySem.W.Frag) (mg : Str → Option Value) (base : Heap) (g n : Nat) (f : FN) : Prop := FnM P w K mg base n (dOf f) (psOf f) (Run.callF g n f)
theorem bn_is_name {fd : FuncData} (F : FunD K d_is_name.name d_is_name.qual d_is_name.params d_is_name.body d_is_name.scope (d_is_name.dvs K) (d_is_name.kws K) (He.fAd K d_is_name.at_) fd) : Binds K fd ps_is_name [] :=
  FunD.bindsN F fun _ _ _ _ _ _ us hl => match us, hl with | [_], _ => rfl
theorem bn_below {fd : FuncData} (F : FunD K d_below.name d_below.qual d_below.params d_below.body d_below.scope (d_below.dvs K) (d_below.kws K) (He.fAd K d_below.at_) fd) : Binds K fd ps_below [] :=
  FunD.bindsN F fun _ _ _ _ _ _ us hl => match us, hl with | [_], _ => rfl
theorem bn_parts {fd : FuncData} (F : FunD K d_parts.name d_parts.qual d_parts.params d_parts.body d_parts.scope (d_parts.dvs K) (d_parts.kws K) (He.fAd K d_parts.at_) fd) : Binds K fd ps_parts [] :=
  FunD.bindsN F fun _ _ _ _ _ _ us hl => match us, hl with | [_], _ => rfl
theorem bn_size {fd : FuncData} (F : FunD K d_size.name d_size.qual d_size.params d_size.body d_size.scope (d_size.dvs K) (d_size.kws K) (He.fAd K d_size.at_) fd) : Binds K fd ps_size [] :=
  FunD.bindsN F fun _ _ _ _ _ _ us hl => match us, hl with | [_], _ => rfl
theorem bn_check_part {fd : FuncData} (F : FunD K d_check_part.name d_check_part.qual d_check_part.params d_check_part.body d_check_part.scope (d_check_part.dvs K) (d_check_part.kws K) (He.fAd K d_check_part.at_) fd) : Binds K fd ps_check_part [] :=
  FunD.bindsN F fun _ _ _ _ _ _ us hl => match us, hl with | [_, _], _ => rfl
theorem bn_check_term {fd : FuncData} (F : FunD K d_check_term.name d_check_term.qual d_check_term.params d_check_term.body d_check_term.scope (d_check_term.dvs K) (d_check_term.kws K) (He.fAd K d_check_term.at_) fd) : Binds K fd ps_check_term [] :=
  FunD.bindsN F fun _ _ _ _ _ _ us hl => match us, hl with | [_], _ => rfl
theorem bn_l_cell {fd : FuncData} (F : FunD K d_l_cell.name d_l_cell.qual d_l_cell.params d_l_cell.body d_l_cell.scope (d_l_cell.dvs K) (d_l_cell.kws K) (He.fAd K d_l_cell.at_) fd) : Binds K fd ps_l_cell [] :=
  FunD.bindsN F fun _ _ _ _ _ _ us hl => match us, hl with | [_, _], _ => rfl
theorem bn_l_at {fd : FuncData} (F : FunD K d_l_at.name d_l_at.qual d_l_at.params d_l_at.body d_l_at.scope (d_l_at.dvs K) (d_l_at.kws K) (He.fAd K d_l_at.at_) fd) : Binds K fd ps_l_at [] :=
  FunD.bindsN F fun _ _ _ _ _ _ us hl => match us, hl with | [_, _], _ => rfl
theorem bn_l_same {fd : FuncData} (F : FunD K d_l_same.name d_l_same.qual d_l_same.params d_l_same.body d_l_same.scope (d_l_same.dvs K) (d_l_same.kws K) (He.fAd K d_l_same.at_) fd) : Binds K fd ps_l_same [] :=
  FunD.bindsN F fun _ _ _ _ _ _ us hl => match us, hl with | [_, _], _ => rfl
theorem bn_l_digits {fd : FuncData} (F : FunD K d_l_digits.name d_l_digits.qual d_l_digits.params d_l_digits.body d_l_digits.scope (d_l_digits.dvs K) (d_l_digits.kws K) (He.fAd K d_l_digits.at_) fd) : Binds K fd ps_l_digits [] :=
  FunD.bindsN F fun _ _ _ _ _ _ us hl => match us, hl with | [_, _, _], _ => rfl
theorem bn_l_name {fd : FuncData} (F : FunD K d_l_name.name d_l_name.qual d_l_name.params d_l_name.body d_l_name.scope (d_l_name.dvs K) (d_l_name.kws K) (He.fAd K d_l_name.at_) fd) : Binds K fd ps_l_name [] :=
  FunD.bindsN F fun _ _ _ _ _ _ us hl => match us, hl with | [_, _], _ => rfl
theorem bn_l_term {fd : FuncData} (F : FunD K d_l_term.name d_l_term.qual d_l_term.params d_l_term.body d_l_term.scope (d_l_term.dvs K) (d_l_term.kws K) (He.fAd K d_l_term.at_) fd) : Binds K fd ps_l_term [] :=
  FunD.bindsN F fun _ _ _ _ _ _ us hl => match us, hl with | [_, _], _ => rfl
theorem bn_l_nest {fd : FuncData} (F : FunD K d_l_nest.name d_l_nest.qual d_l_nest.params d_l_nest.body d_l_nest.scope (d_l_nest.dvs K) (d_l_nest.kws K) (He.fAd K d_l_nest.at_) fd) : Binds K fd ps_l_nest [] :=
  FunD.bindsN F fun _ _ _ _ _ _ us hl => match us, hl with | [_], _ => rfl
theorem bn_l_chain {fd : FuncData} (F : FunD K d_l_chain.name d_l_chain.qual d_l_chain.params d_l_chain.body d_l_chain.scope (d_l_chain.dvs K) (d_l_chain.kws K) (He.fAd K d_l_chain.at_) fd) : Binds K fd ps_l_chain [] :=
  FunD.bindsN F fun _ _ _ _ _ _ us hl => match us, hl with | [_, _, _], _ => rfl
theorem bn_l_bushy {fd : FuncData} (F : FunD K d_l_bushy.name d_l_bushy.qual d_l_bushy.params d_l_bushy.body d_l_bushy.scope (d_l_bushy.dvs K) (d_l_bushy.kws K) (He.fAd K d_l_bushy.at_) fd) : Binds K fd ps_l_bushy [] :=
  FunD.bindsN F fun _ _ _ _ _ _ us hl => match us, hl with | [_], _ => rfl
theorem bn_l_built {fd : FuncData} (F : FunD K d_l_built.name d_l_built.qual d_l_built.params d_l_built.body d_l_built.scope (d_l_built.dvs K) (d_l_built.kws K) (He.fAd K d_l_built.at_) fd) : Binds K fd ps_l_built [] :=
  FunD.bindsN F fun _ _ _ _ _ _ us hl => match us, hl with | [_], _ => rfl
theorem bn_l_strings {fd : FuncData} (F : FunD K d_l_strings.name d_l_strings.qual d_l_strings.params d_l_strings.body d_l_strings.scope (d_l_strings.dvs K) (d_l_strings.kws K) (He.fAd K d_l_strings.at_) fd) : Binds K fd ps_l_strings [] :=
  FunD.bindsN F fun _ _ _ _ _ _ us hl => match us, hl with | [_], _ => rfl
theorem bn_l_dressed {fd : FuncData} (F : FunD K d_l_dressed.name d_l_dressed.qual d_l_dressed.params d_l_dressed.body d_l_dressed.scope (d_l_dressed.dvs K) (d_l_dressed.kws K) (He.fAd K d_l_dressed.at_) fd) : Binds K fd ps_l_dressed [] :=
  FunD.bindsN F fun _ _ _ _ _ _ us hl => match us, hl with | [_, _], _ => rfl
theorem bn_l_changed {fd : FuncData} (F : FunD K d_l_changed.name d_l_changed.qual d_l_changed.params d_l_changed.body d_l_changed.scope (d_l_changed.dvs K) (d_l_changed.kws K) (He.fAd K d_l_changed.at_) fd) : Binds K fd ps_l_changed [] :=
  FunD.bindsN F fun _ _ _ _ _ _ us hl => match us, hl with | [_, _], _ => rfl
theorem bn_l_named {fd : FuncData} (F : FunD K d_l_named.name d_l_named.qual d_l_named.params d_l_named.body d_l_named.scope (d_l_named.dvs K) (d_l_named.kws K) (He.fAd K d_l_named.at_) fd) : Binds K fd ps_l_named [] :=
  FunD.bindsN F fun _ _ _ _ _ _ us hl => match us, hl with | [_], _ => rfl
theorem bn_l_events {fd : FuncData} (F : FunD K d_l_events.name d_l_events.qual d_l_events.params d_l_events.body d_l_events.scope (d_l_events.dvs K) (d_l_events.kws K) (He.fAd K d_l_events.at_) fd) : Binds K fd ps_l_events [] :=
  FunD.bindsN F fun _ _ _ _ _ _ us hl => match us, hl with | [_], _ => rfl
theorem bn_l_nodes {fd : FuncData} (F : FunD K d_l_nodes.name d_l_nodes.qual d_l_nodes.params d_l_nodes.body d_l_nodes.scope (d_l_nodes.dvs K) (d_l_nodes.kws K) (He.fAd K d_l_nodes.at_) fd) : Binds K fd ps_l_nodes [] :=
  FunD.bindsN F fun _ _ _ _ _ _ us hl => match us, hl with | [_], _ => rfl
theorem bn_l_fault {fd : FuncData} (F : FunD K d_l_fault.name d_l_fault.qual d_l_fault.params d_l_fault.body d_l_fault.scope (d_l_fault.dvs K) (d_l_fault.kws K) (He.fAd K d_l_fault.at_) fd) : Binds K fd ps_l_fault [] :=
  FunD.bindsN F fun _ _ _ _ _ _ us hl => match us, hl with | [_], _ => rfl
theorem bn_l_due {fd : FuncData} (F : FunD K d_l_due.name d_l_due.qual d_l_due.params d_l_due.body d_l_due.scope (d_l_due.dvs K) (d_l_due.kws K) (He.fAd K d_l_due.at_) fd) : Binds K fd ps_l_due [] :=
  FunD.bindsN F fun _ _ _ _ _ _ us hl => match us, hl with | [_], _ => rfl
theorem bn_l_told {fd : FuncData} (F : FunD K d_l_told.name d_l_told.qual d_l_told.params d_l_told.body d_l_told.scope (d_l_told.dvs K) (d_l_told.kws K) (He.fAd K d_l_told.at_) fd) : Binds K fd ps_l_told [] :=
  FunD.bindsN F fun _ _ _ _ _ _ us hl => match us, hl with | [_], _ => rfl
theorem bn_f_law {fd : FuncData} (F : FunD K d_f_law.name d_f_law.qual d_f_law.params d_f_law.body d_f_law.scope (d_f_law.dvs K) (d_f_law.kws K) (He.fAd K d_f_law.at_) fd) : Binds K fd ps_f_law [] :=
  FunD.bindsN F fun _ _ _ _ _ _ us hl => match us, hl with | [_], _ => rfl
set_option maxHeartbeats 4000000 in
theorem ok_is_name (g : Nat) (T : Top P K mg) (U : ∀ f : FN, FnA P w K mg base g n f) : FnA P w K mg base g (n + 1) .is_name := by
  obtain ⟨fd, hF⟩ := T.t_is_name
  refine fn_succ (d := d_is_name) (N := nm_is_name) (ps := ps_is_name) (b := Run.b_is_name (Run.callF g n) g) hF (bn_is_name hF) sc_is_name (by decide) (fun cdv A outer s H E hr => ?_) (fun _ _ => rfl)
  have tk : Takes (cxOf (L2.CX P w) P w K mg base nm_is_name d_is_name.qual d_is_name.scope (He.fAd K d_is_name.at_) cdv A outer s H E) (fun c dd _ H' => E c dd H') := takes_of rfl rfl rfl rfl
  have po : PassesOwn (model P w) (A.deeper (envOfC d_is_name.qual d_is_name.scope s.heap.objs.size (He.fAd K d_is_name.at_) cdv)) (envOfC d_is_name.qual d_is_name.scope s.heap.objs.size (He.fAd K d_is_name.at_) cdv) (cxOf (L2.CX P w) P w K mg base nm_is_name d_is_name.qual d_is_name.scope (He.fAd K d_is_name.at_) cdv A outer s H E).xe := passes_of rfl
  exact ss_cons (ss_if (st_w (sw_or (st_not (st_chain op_le vop_cmp op_le vop_cmp (se_int) (se_callB call_lenM vc_len (by rfl) T.z_len (sa_cons (se_var 0) (sa_nil))) (se_gint (by rfl) T.g_LONGEST))) (sw_or1 (st_cmpR (op_ninA (hu65 hr)) vop_nin (se_ix (hu_of hr) (se_var 0) (se_int)) (se_gstr [97, 98, 99, 100, 101, 102, 103, 104, 105, 106, 107, 108, 109, 110, 111, 112, 113, 114, 115, 116, 117, 118, 119, 120, 121, 122] (by rfl) T.g_LETTERS) (by rfl))))) (ss_one (ss_ret (se_bl))) (ss_nil)) <|
    ss_cons (ss_for po rfl (si_seq (se_var 0)) (sg_nm sc_is_name.nd) (ss_one (ss_if (st_w (sw_and (st_cmpR (op_ninA (hu65 hr)) vop_nin (se_var 1) (se_gstr [97, 98, 99, 100, 101, 102, 103, 104, 105, 106, 107, 108, 109, 110, 111, 112, 113, 114, 115, 116, 117, 118, 119, 120, 121, 122] (by rfl) T.g_LETTERS) (by rfl)) (sw_and1 (st_cmpR (op_ninA (hu65 hr)) vop_nin (se_var 1) (se_gstr [48, 49, 50, 51, 52, 53, 54, 55, 56, 57] (by rfl) T.g_DIGITS) (by rfl))))) (ss_one (ss_ret (se_bl))) (ss_nil)))) <|
    ss_one (ss_ret (se_bl))
set_option maxHeartbeats 4000000 in
theorem ok_below (g : Nat) (T : Top P K mg) (U : ∀ f : FN, FnA P w K mg base g n f) : FnA P w K mg base g (n + 1) .below := by
  obtain ⟨fd, hF⟩ := T.t_below
  refine fn_succ (d := d_below) (N := nm_below) (ps := ps_below) (b := Run.b_below (Run.callF g n) g) hF (bn_below hF) sc_below (by decide) (fun cdv A outer s H E hr => ?_) (fun _ _ => rfl)
  have tk : Takes (cxOf (L2.CX P w) P w K mg base nm_below d_below.qual d_below.scope (He.fAd K d_below.at_) cdv A outer s H E) (fun c dd _ H' => E c dd H') := takes_of rfl rfl rfl rfl
  have po : PassesOwn (model P w) (A.deeper (envOfC d_below.qual d_below.scope s.heap.objs.size (He.fAd K d_below.at_) cdv)) (envOfC d_below.qual d_below.scope s.heap.objs.size (He.fAd K d_below.at_) cdv) (cxOf (L2.CX P w) P w K mg base nm_below d_below.qual d_below.scope (He.fAd K d_below.at_) cdv A outer s H E).xe := passes_of rfl
  exact ss_cons (ss_if (st_cmpR (op_eqD hr.units) vop_eq (se_ix (hu_of hr) (se_var 0) (se_int)) (se_str [98, 105, 110, 100]) (nomark _)) (ss_one (ss_ret (se_lst (sa_cons (se_ix (hu_of hr) (se_var 0) (se_int)) (sa_nil))))) (ss_nil)) <|
    ss_cons (ss_if (st_cmpR (op_eqD hr.units) vop_eq (se_ix (hu_of hr) (se_var 0) (se_int)) (se_str [97, 112, 112, 108, 121]) (nomark _)) (ss_one (ss_ret (se_lst (sa_cons (se_ix (hu_of hr) (se_var 0) (se_int)) (sa_cons (se_ix (hu_of hr) (se_var 0) (se_int)) (sa_nil)))))) (ss_nil)) <|
    ss_one (ss_ret (se_lst (sa_nil)))
set_option maxHeartbeats 4000000 in
theorem ok_parts (g : Nat) (T : Top P K mg) (U : ∀ f : FN, FnA P w K mg base g n f) : FnA P w K mg base g (n + 1) .parts := by
  obtain ⟨fd, hF⟩ := T.t_parts
  refine fn_succ (d := d_parts) (N := nm_parts) (ps := ps_parts) (b := Run.b_parts (Run.callF g n) g) hF (bn_parts hF) sc_parts (by decide) (fun cdv A outer s H E hr => ?_) (fun _ _ => rfl)
  have tk : Takes (cxOf (L2.CX P w) P w K mg base nm_parts d_parts.qual d_parts.scope (He.fAd K d_parts.at_) cdv A outer s H E) (fun c dd _ H' => E c dd H') := takes_of rfl rfl rfl rfl
  have po : PassesOwn (model P w) (A.deeper (envOfC d_parts.qual d_parts.scope s.heap.objs.size (He.fAd K d_parts.at_) cdv)) (envOfC d_parts.qual d_parts.scope s.heap.objs.size (He.fAd K d_parts.at_) cdv) (cxOf (L2.CX P w) P w K mg base nm_parts d_parts.qual d_parts.scope (He.fAd K d_parts.at_) cdv A outer s H E).xe := passes_of rfl
  exact ss_cons (ss_set sc_parts.nd (i := 1) (se_lst (sa_nil))) <|
    ss_cons (ss_set sc_parts.nd (i := 2) (se_lst (sa_cons (se_var 0) (sa_nil)))) <|
    ss_cons (ss_while g po (st_truth (se_var 2)) (ss_cons (ss_set sc_parts.nd (i := 3) (se_pop (se_var 2))) <|
    ss_cons (ss_expr (se_append (se_var 1) (sa_cons (se_var 3) (sa_nil)))) <|
    ss_one (ss_expr (se_extend (se_var 2) (sa_cons (se_rev (se_call (U .below) hr tk (by rfl) T.f_below (sa_cons (se_var 3) (sa_nil)))) (sa_nil)))))) <|
    ss_one (ss_ret (se_var 1))
set_option maxHeartbeats 4000000 in
theorem ok_size (g : Nat) (T : Top P K mg) (U : ∀ f : FN, FnA P w K mg base g n f) : FnA P w K mg base g (n + 1) .size := by
  obtain ⟨fd, hF⟩ := T.t_size
  refine fn_succ (d := d_size) (N := nm_size) (ps := ps_size) (b := Run.b_size (Run.callF g n) g) hF (bn_size hF) sc_size (by decide) (fun cdv A outer s H E hr => ?_) (fun _ _ => rfl)
  have tk : Takes (cxOf (L2.CX P w) P w K mg base nm_size d_size.qual d_size.scope (He.fAd K d_size.at_) cdv A outer s H E) (fun c dd _ H' => E c dd H') := takes_of rfl rfl rfl rfl
  have po : PassesOwn (model P w) (A.deeper (envOfC d_size.qual d_size.scope s.heap.objs.size (He.fAd K d_size.at_) cdv)) (envOfC d_size.qual d_size.scope s.heap.objs.size (He.fAd K d_size.at_) cdv) (cxOf (L2.CX P w) P w K mg base nm_size d_size.qual d_size.scope (He.fAd K d_size.at_) cdv A outer s H E).xe := passes_of rfl
  exact ss_one (ss_ret (se_callB call_lenM vc_len (by rfl) T.z_len (sa_cons (se_lc (own := [("part", 1)]) (sl := [1]) rfl sc_size.nd (si_seq (se_call (U .parts) hr tk (by rfl) T.f_parts (sa_cons (se_var 0) (sa_nil)))) (blkOk_by (own := [("part", 1)]) (N := nm_size) (sc := d_size.scope) (by decide +kernel)) (fun _ _ _ _ _ => sg_nm sc_size.nd) (fun _ _ _ _ _ => sts_one (st_cmpR (op_neD hr.units) vop_ne (se_ix (hu_of hr) (se_var 1) (se_int)) (se_str [110, 97, 109, 101]) (nomark _))) (fun _ _ _ _ _ => se_var 1)) (sa_nil))))
set_option maxHeartbeats 4000000 in
theorem ok_check_part (g : Nat) (T : Top P K mg) (U : ∀ f : FN, FnA P w K mg base g n f) : FnA P w K mg base g (n + 1) .check_part := by
  obtain ⟨fd, hF⟩ := T.t_check_part
  refine fn_succ (d := d_check_part) (N := nm_check_part) (ps := ps_check_part) (b := Run.b_check_part (Run.callF g n) g) hF (bn_check_part hF) sc_check_part (by decide) (fun cdv A outer s H E hr => ?_) (fun _ _ => rfl)
  have tk : Takes (cxOf (L2.CX P w) P w K mg base nm_check_part d_check_part.qual d_check_part.scope (He.fAd K d_check_part.at_) cdv A outer s H E) (fun c dd _ H' => E c dd H') := takes_of rfl rfl rfl rfl
  have po : PassesOwn (model P w) (A.deeper (envOfC d_check_part.qual d_check_part.scope s.heap.objs.size (He.fAd K d_check_part.at_) cdv)) (envOfC d_check_part.qual d_check_part.scope s.heap.objs.size (He.fAd K d_check_part.at_) cdv) (cxOf (L2.CX P w) P w K mg base nm_check_part d_check_part.qual d_check_part.scope (He.fAd K d_check_part.at_) cdv A outer s H E).xe := passes_of rfl
  exact ss_cons (ss_if (st_cmpR (op_eqD hr.units) vop_eq (se_ix (hu_of hr) (se_var 0) (se_int)) (se_str [97, 112, 112, 108, 121]) (nomark _)) (ss_cons (ss_expr (se_call (U .check_part) hr tk (by rfl) T.f_check_part (sa_cons (se_ix (hu_of hr) (se_var 0) (se_int)) (sa_cons (se_var 1) (sa_nil))))) <|
    ss_cons (ss_expr (se_call (U .check_part) hr tk (by rfl) T.f_check_part (sa_cons (se_ix (hu_of hr) (se_var 0) (se_int)) (sa_cons (se_var 1) (sa_nil))))) <|
    ss_one (ss_retN)) (ss_nil)) <|
    ss_cons (ss_set sc_check_part.nd (i := 2) (se_ix (hu_of hr) (se_var 0) (se_int))) <|
    ss_cons (ss_if (st_not (st_truth (se_call (U .is_name) hr tk (by rfl) T.f_is_name (sa_cons (se_var 2) (sa_nil))))) (ss_one (ss_raise_name rfl tk T.s_BadName T.k_BadName T.z_super hr (se_var 2) (by rfl))) (ss_nil)) <|
    ss_cons (ss_if (st_cmpR (op_eqD hr.units) vop_eq (se_ix (hu_of hr) (se_var 0) (se_int)) (se_str [110, 97, 109, 101]) (nomark _)) (ss_cons (ss_if (st_truth (se_get2 (hu_of hr) (se_var 1) (se_var 2) (se_bl) ⟨by rfl, by rfl, by rfl, by rfl⟩)) (ss_one (ss_raise_name rfl tk T.s_Repeated T.k_Repeated T.z_super hr (se_var 2) (by rfl))) (ss_nil)) <|
    ss_cons (ss_setIx (hu_of hr) (se_var 1) (se_var 2) (se_bl)) <|
    ss_one (ss_retN)) (ss_nil)) <|
    ss_cons (ss_if (st_cmpR (op_inA (hu65 hr)) vop_in (se_var 2) (se_var 1) (by rfl)) (ss_one (ss_raise_name rfl tk T.s_Repeated T.k_Repeated T.z_super hr (se_var 2) (by rfl))) (ss_nil)) <|
    ss_cons (ss_setIx (hu_of hr) (se_var 1) (se_var 2) (se_bl)) <|
    ss_cons (ss_expr (se_call (U .check_part) hr tk (by rfl) T.f_check_part (sa_cons (se_ix (hu_of hr) (se_var 0) (se_int)) (sa_cons (se_var 1) (sa_nil))))) <|
    ss_one (ss_if (st_not (st_truth (se_ix (hu_of hr) (se_var 1) (se_var 2)))) (ss_one (ss_raise_name rfl tk T.s_Unused T.k_Unused T.z_super hr (se_var 2) (by rfl))) (ss_nil))
set_option maxHeartbeats 4000000 in
theorem ok_check_term (g : Nat) (T : Top P K mg) (U : ∀ f : FN, FnA P w K mg base g n f) : FnA P w K mg base g (n + 1) .check_term := by
  obtain ⟨fd, hF⟩ := T.t_check_term
  refine fn_succ (d := d_check_term) (N := nm_check_term) (ps := ps_check_term) (b := Run.b_check_term (Run.callF g n) g) hF (bn_check_term hF) sc_check_term (by decide) (fun cdv A outer s H E hr => ?_) (fun _ _ => rfl)
  have tk : Takes (cxOf (L2.CX P w) P w K mg base nm_check_term d_check_term.qual d_check_term.scope (He.fAd K d_check_term.at_) cdv A outer s H E) (fun c dd _ H' => E c dd H') := takes_of rfl rfl rfl rfl
  have po : PassesOwn (model P w) (A.deeper (envOfC d_check_term.qual d_check_term.scope s.heap.objs.size (He.fAd K d_check_term.at_) cdv)) (envOfC d_check_term.qual d_check_term.scope s.heap.objs.size (He.fAd K d_check_term.at_) cdv) (cxOf (L2.CX P w) P w K mg base nm_check_term d_check_term.qual d_check_term.scope (He.fAd K d_check_term.at_) cdv A outer s H E).xe := passes_of rfl
  exact ss_cons (ss_set sc_check_term.nd (i := 1) (se_call (U .size) hr tk (by rfl) T.f_size (sa_cons (se_var 0) (sa_nil)))) <|
    ss_cons (ss_if (st_cmpR op_gt vop_cmp (se_var 1) (se_gint (by rfl) T.g_MOST_NODES) (nomark _)) (ss_one (ss_raise0 rfl tk T.e_TooLarge T.k_TooLarge (by rfl))) (ss_nil)) <|
    ss_cons (ss_expr (se_call (U .check_part) hr tk (by rfl) T.f_check_part (sa_cons (se_var 0) (sa_cons (se_dicK) (sa_nil))))) <|
    ss_one (ss_ret (se_var 1))
set_option maxHeartbeats 4000000 in
theorem ok_l_cell (g : Nat) (T : Top P K mg) (U : ∀ f : FN, FnA P w K mg base g n f) : FnA P w K mg base g (n + 1) .l_cell := by
  obtain ⟨fd, hF⟩ := T.t_l_cell
  refine fn_succ (d := d_l_cell) (N := nm_l_cell) (ps := ps_l_cell) (b := Run.b_l_cell (Run.callF g n) g) hF (bn_l_cell hF) sc_l_cell (by decide) (fun cdv A outer s H E hr => ?_) (fun _ _ => rfl)
  have tk : Takes (cxOf (L2.CX P w) P w K mg base nm_l_cell d_l_cell.qual d_l_cell.scope (He.fAd K d_l_cell.at_) cdv A outer s H E) (fun c dd _ H' => E c dd H') := takes_of rfl rfl rfl rfl
  have po : PassesOwn (model P w) (A.deeper (envOfC d_l_cell.qual d_l_cell.scope s.heap.objs.size (He.fAd K d_l_cell.at_) cdv)) (envOfC d_l_cell.qual d_l_cell.scope s.heap.objs.size (He.fAd K d_l_cell.at_) cdv) (cxOf (L2.CX P w) P w K mg base nm_l_cell d_l_cell.qual d_l_cell.scope (He.fAd K d_l_cell.at_) cdv A outer s H E).xe := passes_of rfl
  exact ss_cons (ss_if (st_cmpR op_lt vop_cmp (se_var 1) (se_callB call_lenM vc_len (by rfl) T.z_len (sa_cons (se_var 0) (sa_nil))) (nomark _)) (ss_one (ss_ret (se_ix (hu_of hr) (se_var 0) (se_var 1)))) (ss_nil)) <|
    ss_one (ss_ret (se_int))
set_option maxHeartbeats 4000000 in
theorem ok_l_at (g : Nat) (T : Top P K mg) (U : ∀ f : FN, FnA P w K mg base g n f) : FnA P w K mg base g (n + 1) .l_at := by
  obtain ⟨fd, hF⟩ := T.t_l_at
  refine fn_succ (d := d_l_at) (N := nm_l_at) (ps := ps_l_at) (b := Run.b_l_at (Run.callF g n) g) hF (bn_l_at hF) sc_l_at (by decide) (fun cdv A outer s H E hr => ?_) (fun _ _ => rfl)
  have tk : Takes (cxOf (L2.CX P w) P w K mg base nm_l_at d_l_at.qual d_l_at.scope (He.fAd K d_l_at.at_) cdv A outer s H E) (fun c dd _ H' => E c dd H') := takes_of rfl rfl rfl rfl
  have po : PassesOwn (model P w) (A.deeper (envOfC d_l_at.qual d_l_at.scope s.heap.objs.size (He.fAd K d_l_at.at_) cdv)) (envOfC d_l_at.qual d_l_at.scope s.heap.objs.size (He.fAd K d_l_at.at_) cdv) (cxOf (L2.CX P w) P w K mg base nm_l_at d_l_at.qual d_l_at.scope (He.fAd K d_l_at.at_) cdv A outer s H E).xe := passes_of rfl
  exact ss_cons (ss_if (st_cmpR op_lt vop_cmp (se_var 1) (se_callB call_lenM vc_len (by rfl) T.z_len (sa_cons (se_var 0) (sa_nil))) (nomark _)) (ss_one (ss_ret (se_ix (hu_of hr) (se_var 0) (se_var 1)))) (ss_nil)) <|
    ss_one (ss_ret (se_int))
set_option maxHeartbeats 4000000 in
theorem ok_l_same (g : Nat) (T : Top P K mg) (U : ∀ f : FN, FnA P w K mg base g n f) : FnA P w K mg base g (n + 1) .l_same := by
  obtain ⟨fd, hF⟩ := T.t_l_same
  refine fn_succ (d := d_l_same) (N := nm_l_same) (ps := ps_l_same) (b := Run.b_l_same (Run.callF g n) g) hF (bn_l_same hF) sc_l_same (by decide) (fun cdv A outer s H E hr => ?_) (fun _ _ => rfl)
  have tk : Takes (cxOf (L2.CX P w) P w K mg base nm_l_same d_l_same.qual d_l_same.scope (He.fAd K d_l_same.at_) cdv A outer s H E) (fun c dd _ H' => E c dd H') := takes_of rfl rfl rfl rfl
  have po : PassesOwn (model P w) (A.deeper (envOfC d_l_same.qual d_l_same.scope s.heap.objs.size (He.fAd K d_l_same.at_) cdv)) (envOfC d_l_same.qual d_l_same.scope s.heap.objs.size (He.fAd K d_l_same.at_) cdv) (cxOf (L2.CX P w) P w K mg base nm_l_same d_l_same.qual d_l_same.scope (He.fAd K d_l_same.at_) cdv A outer s H E).xe := passes_of rfl
  exact ss_cons (ss_if (st_truth (se_isi .bool (by rfl) T.z_isinstance (se_var 1) (by rfl) T.z_bool)) (ss_one (ss_ret (se_and (se_isi .bool (by rfl) T.z_isinstance (se_var 0) (by rfl) T.z_bool) (se_one (se_cmpR (op_eqD hr.units) vop_eq (se_var 0) (se_var 1) (nomark _)))))) (ss_nil)) <|
    ss_cons (ss_if (st_truth (se_isi .int (by rfl) T.z_isinstance (se_var 1) (by rfl) T.z_int)) (ss_one (ss_ret (se_and (se_isi .int (by rfl) T.z_isinstance (se_var 0) (by rfl) T.z_int) (se_and (se_not (se_isi .bool (by rfl) T.z_isinstance (se_var 0) (by rfl) T.z_bool)) (se_one (se_cmpR (op_eqD hr.units) vop_eq (se_var 0) (se_var 1) (nomark _))))))) (ss_nil)) <|
    ss_cons (ss_if (st_truth (se_isi .str (by rfl) T.z_isinstance (se_var 1) (by rfl) T.z_str)) (ss_one (ss_ret (se_and (se_isi .str (by rfl) T.z_isinstance (se_var 0) (by rfl) T.z_str) (se_one (se_cmpR (op_eqD hr.units) vop_eq (se_var 0) (se_var 1) (nomark _)))))) (ss_nil)) <|
    ss_cons (ss_if (st_w (sw_or (st_cmpR (op_neD hr.units) vop_ne (se_isi .tuple (by rfl) T.z_isinstance (se_var 1) (by rfl) T.z_tuple) (se_isi .tuple (by rfl) T.z_isinstance (se_var 0) (by rfl) T.z_tuple) (nomark _)) (sw_or1 (st_cmpR (op_neD hr.units) vop_ne (se_isi .list (by rfl) T.z_isinstance (se_var 1) (by rfl) T.z_list) (se_isi .list (by rfl) T.z_isinstance (se_var 0) (by rfl) T.z_list) (nomark _))))) (ss_one (ss_ret (se_bl))) (ss_nil)) <|
    ss_cons (ss_if (st_w (sw_or (st_not (st_truth (se_isi2 .tuple .list (by rfl) T.z_isinstance (se_var 0) (by rfl) T.z_tuple (by rfl) T.z_list))) (sw_or1 (st_cmpR (op_neD hr.units) vop_ne (se_callB call_lenM vc_len (by rfl) T.z_len (sa_cons (se_var 0) (sa_nil))) (se_callB call_lenM vc_len (by rfl) T.z_len (sa_cons (se_var 1) (sa_nil))) (nomark _))))) (ss_one (ss_ret (se_bl))) (ss_nil)) <|
    ss_cons (ss_for po rfl (si_rng1 (by rfl) T.z_range (sa_cons (se_callB call_lenM vc_len (by rfl) T.z_len (sa_cons (se_var 1) (sa_nil))) (sa_nil))) (sg_nm sc_l_same.nd) (ss_one (ss_if (st_not (st_truth (se_call (U .l_same) hr tk (by rfl) T.f_l_same (sa_cons (se_ix (hu_of hr) (se_var 0) (se_var 2)) (sa_cons (se_ix (hu_of hr) (se_var 1) (se_var 2)) (sa_nil)))))) (ss_one (ss_ret (se_bl))) (ss_nil)))) <|
    ss_one (ss_ret (se_bl))
set_option maxHeartbeats 4000000 in
theorem ok_l_digits (g : Nat) (T : Top P K mg) (U : ∀ f : FN, FnA P w K mg base g n f) : FnA P w K mg base g (n + 1) .l_digits := by
  obtain ⟨fd, hF⟩ := T.t_l_digits
  refine fn_succ (d := d_l_digits) (N := nm_l_digits) (ps := ps_l_digits) (b := Run.b_l_digits (Run.callF g n) g) hF (bn_l_digits hF) sc_l_digits (by decide) (fun cdv A outer s H E hr => ?_) (fun _ _ => rfl)
  have tk : Takes (cxOf (L2.CX P w) P w K mg base nm_l_digits d_l_digits.qual d_l_digits.scope (He.fAd K d_l_digits.at_) cdv A outer s H E) (fun c dd _ H' => E c dd H') := takes_of rfl rfl rfl rfl
  have po : PassesOwn (model P w) (A.deeper (envOfC d_l_digits.qual d_l_digits.scope s.heap.objs.size (He.fAd K d_l_digits.at_) cdv)) (envOfC d_l_digits.qual d_l_digits.scope s.heap.objs.size (He.fAd K d_l_digits.at_) cdv) (cxOf (L2.CX P w) P w K mg base nm_l_digits d_l_digits.qual d_l_digits.scope (He.fAd K d_l_digits.at_) cdv A outer s H E).xe := passes_of rfl
  exact ss_cons (ss_set sc_l_digits.nd (i := 3) (se_lst (sa_nil))) <|
    ss_cons (ss_set sc_l_digits.nd (i := 4) (se_callB call_abs vc_abs (by rfl) T.z_abs (sa_cons (se_var 0) (sa_nil)))) <|
    ss_cons (ss_if (st_cmpR op_ge vop_cmp (se_var 4) (se_bin op_pow (vop_intG okPow_ok) (se_int) (se_int)) (nomark _)) (ss_cons (ss_for po rfl (si_rng1 (by rfl) T.z_range (sa_cons (se_var 1) (sa_nil))) (sg_nm sc_l_digits.nd) (ss_one (ss_if (st_cmpR op_gt vop_cmp (se_var 4) (se_int) (nomark _)) (ss_cons (ss_expr (se_append (se_var 3) (sa_cons (se_bin op_mod (vop_intG okMod_ok) (se_var 4) (se_int)) (sa_nil)))) <|
    ss_one (ss_set sc_l_digits.nd (i := 4) (se_bin op_fdiv (vop_intG okDiv_ok) (se_var 4) (se_int)))) (ss_nil)))) <|
    ss_one (ss_ret (se_var 3))) (ss_nil)) <|
    ss_cons (ss_set sc_l_digits.nd (i := 6) (se_bin op_addM vop_add (se_bin op_addM vop_add (se_bin op_mulM vop_mul (se_var 4) (se_int)) (se_bin op_mulM vop_mul (se_var 2) (se_int))) (se_int))) <|
    ss_cons (ss_for po rfl (si_rng1 (by rfl) T.z_range (sa_cons (se_var 1) (sa_nil))) (sg_nm sc_l_digits.nd) (ss_cons (ss_set sc_l_digits.nd (i := 6) (se_bin op_mod (vop_intG okMod_ok) (se_callT call_int1 vc_int (by rfl) T.z_int (sa_cons (se_bin op_addM vop_add (se_bin op_addM vop_add (se_bin op_mulM vop_mul (se_var 6) (se_int)) (se_int)) (se_var 5)) (sa_nil))) (se_int))) <|
    ss_one (ss_expr (se_append (se_var 3) (sa_cons (se_bin op_mod (vop_intG okMod_ok) (se_bin op_fdiv (vop_intG okDiv_ok) (se_bin op_mod (vop_intG okMod_ok) (se_callT call_int1 vc_int (by rfl) T.z_int (sa_cons (se_bin op_addM vop_add (se_bin op_mulM vop_mul (se_var 6) (se_int)) (se_var 2)) (sa_nil))) (se_int)) (se_int)) (se_int)) (sa_nil)))))) <|
    ss_one (ss_ret (se_var 3))
set_option maxHeartbeats 4000000 in
theorem ok_l_name (g : Nat) (T : Top P K mg) (U : ∀ f : FN, FnA P w K mg base g n f) : FnA P w K mg base g (n + 1) .l_name := by
  obtain ⟨fd, hF⟩ := T.t_l_name
  refine fn_succ (d := d_l_name) (N := nm_l_name) (ps := ps_l_name) (b := Run.b_l_name (Run.callF g n) g) hF (bn_l_name hF) sc_l_name (by decide) (fun cdv A outer s H E hr => ?_) (fun _ _ => rfl)
  have tk : Takes (cxOf (L2.CX P w) P w K mg base nm_l_name d_l_name.qual d_l_name.scope (He.fAd K d_l_name.at_) cdv A outer s H E) (fun c dd _ H' => E c dd H') := takes_of rfl rfl rfl rfl
  have po : PassesOwn (model P w) (A.deeper (envOfC d_l_name.qual d_l_name.scope s.heap.objs.size (He.fAd K d_l_name.at_) cdv)) (envOfC d_l_name.qual d_l_name.scope s.heap.objs.size (He.fAd K d_l_name.at_) cdv) (cxOf (L2.CX P w) P w K mg base nm_l_name d_l_name.qual d_l_name.scope (He.fAd K d_l_name.at_) cdv A outer s H E).xe := passes_of rfl
  exact ss_cons (ss_if (st_cmpR (op_eqD hr.units) vop_eq (se_bin op_mod (vop_intG okMod_ok) (se_callT call_int1 vc_int (by rfl) T.z_int (sa_cons (se_var 1) (sa_nil))) (se_int)) (se_int) (nomark _)) (ss_one (ss_ret (se_bin op_addM vop_add (se_str [122, 122]) (se_callT call_str_int vc_str (by rfl) T.z_str (sa_cons (se_bin op_sub vop_int (se_int) (se_var 0)) (sa_nil)))))) (ss_nil)) <|
    ss_one (ss_ret (se_bin op_addM vop_add (se_ix (hu_of hr) (se_lst (sa_cons (se_str [110]) (sa_cons (se_str [118]) (sa_cons (se_str [113, 55]) (sa_cons (se_str [122, 122]) (sa_cons (se_str [108, 111, 110, 103]) (sa_nil))))))) (se_bin op_mod (vop_intG okMod_ok) (se_callT call_int1 vc_int (by rfl) T.z_int (sa_cons (se_var 1) (sa_nil))) (se_int))) (se_callT call_str_int vc_str (by rfl) T.z_str (sa_cons (se_var 0) (sa_nil)))))
set_option maxHeartbeats 4000000 in
theorem ok_l_term (g : Nat) (T : Top P K mg) (U : ∀ f : FN, FnA P w K mg base g n f) : FnA P w K mg base g (n + 1) .l_term := by
  obtain ⟨fd, hF⟩ := T.t_l_term
  refine fn_succ (d := d_l_term) (N := nm_l_term) (ps := ps_l_term) (b := Run.b_l_term (Run.callF g n) g) hF (bn_l_term hF) sc_l_term (by decide) (fun cdv A outer s H E hr => ?_) (fun _ _ => rfl)
  have tk : Takes (cxOf (L2.CX P w) P w K mg base nm_l_term d_l_term.qual d_l_term.scope (He.fAd K d_l_term.at_) cdv A outer s H E) (fun c dd _ H' => E c dd H') := takes_of rfl rfl rfl rfl
  have po : PassesOwn (model P w) (A.deeper (envOfC d_l_term.qual d_l_term.scope s.heap.objs.size (He.fAd K d_l_term.at_) cdv)) (envOfC d_l_term.qual d_l_term.scope s.heap.objs.size (He.fAd K d_l_term.at_) cdv) (cxOf (L2.CX P w) P w K mg base nm_l_term d_l_term.qual d_l_term.scope (He.fAd K d_l_term.at_) cdv A outer s H E).xe := passes_of rfl
  exact ss_cons (ss_set sc_l_term.nd (i := 2) (se_lst (sa_nil))) <|
    ss_cons (ss_set sc_l_term.nd (i := 3) (se_int)) <|
    ss_cons (ss_for po rfl (si_seq (se_var 0)) (sg_nm sc_l_term.nd) (ss_one (ss_if (st_w (sw_and (st_cmpR (op_eqD hr.units) vop_eq (se_bin op_mod (vop_intG okMod_ok) (se_var 4) (se_int)) (se_int) (nomark _)) (sw_and1 (st_cmpR op_ge vop_cmp (se_callB call_lenM vc_len (by rfl) T.z_len (sa_cons (se_var 2) (sa_nil))) (se_int) (nomark _))))) (ss_cons (ss_set sc_l_term.nd (i := 5) (se_pop (se_var 2))) <|
    ss_cons (ss_set sc_l_term.nd (i := 6) (se_pop (se_var 2))) <|
    ss_one (ss_expr (se_append (se_var 2) (sa_cons (se_tup (sa_cons (se_tup (sa_cons (se_str [97, 112, 112, 108, 121]) (sa_cons (se_ix (hu_of hr) (se_var 6) (se_int)) (sa_cons (se_ix (hu_of hr) (se_var 5) (se_int)) (sa_nil))))) (sa_cons (se_bin op_addM vop_add (se_ix (hu_of hr) (se_var 6) (se_int)) (se_ix (hu_of hr) (se_var 5) (se_int))) (sa_nil)))) (sa_nil))))) (ss_one (ss_if (st_w (sw_and (st_cmpR (op_eqD hr.units) vop_eq (se_bin op_mod (vop_intG okMod_ok) (se_var 4) (se_int)) (se_int) (nomark _)) (sw_and (st_cmpR (op_neD hr.units) vop_ne (se_var 2) (se_lst (sa_nil)) (nomark _)) (sw_and1 (st_cmpR (op_neD hr.units) vop_ne (se_ix (hu_of hr) (se_ix (hu_of hr) (se_var 2) (se_neg (se_int))) (se_int)) (se_lst (sa_nil)) (nomark _)))))) (ss_cons (ss_set sc_l_term.nd (i := 5) (se_pop (se_var 2))) <|
    ss_cons (ss_set sc_l_term.nd (i := 7) (se_ix (hu_of hr) (se_ix (hu_of hr) (se_var 5) (se_int)) (se_bin op_mod (vop_intG okMod_ok) (se_bin op_fdiv (vop_intG okDiv_ok) (se_var 4) (se_int)) (se_callB call_lenM vc_len (by rfl) T.z_len (sa_cons (se_ix (hu_of hr) (se_var 5) (se_int)) (sa_nil)))))) <|
    ss_one (ss_expr (se_append (se_var 2) (sa_cons (se_tup (sa_cons (se_tup (sa_cons (se_str [98, 105, 110, 100]) (sa_cons (se_var 7) (sa_cons (se_ix (hu_of hr) (se_var 5) (se_int)) (sa_nil))))) (sa_cons (se_lc (own := [("one", 8)]) (sl := [8]) rfl sc_l_term.nd (si_seq (se_ix (hu_of hr) (se_var 5) (se_int))) (blkOk_by (own := [("one", 8)]) (N := nm_l_term) (sc := d_l_term.scope) (by decide +kernel)) (fun _ _ _ _ _ => sg_nm sc_l_term.nd) (fun _ _ _ _ _ => sts_one (st_cmpR (op_neD hr.units) vop_ne (se_var 8) (se_var 7) (nomark _))) (fun _ _ _ _ _ => se_var 8)) (sa_nil)))) (sa_nil))))) (ss_cons (ss_expr (se_append (se_var 2) (sa_cons (se_tup (sa_cons (se_tup (sa_cons (se_str [110, 97, 109, 101]) (sa_cons (se_call (U .l_name) hr tk (by rfl) T.f_l_name (sa_cons (se_var 3) (sa_cons (se_var 1) (sa_nil)))) (sa_nil)))) (sa_cons (se_lst (sa_cons (se_call (U .l_name) hr tk (by rfl) T.f_l_name (sa_cons (se_var 3) (sa_cons (se_var 1) (sa_nil)))) (sa_nil))) (sa_nil)))) (sa_nil)))) <|
    ss_one (ss_set sc_l_term.nd (i := 3) (se_bin op_addM vop_add (se_var 3) (se_int))))))))) <|
    ss_cons (ss_if (st_cmpR (op_eqD hr.units) vop_eq (se_var 2) (se_lst (sa_nil)) (nomark _)) (ss_one (ss_expr (se_append (se_var 2) (sa_cons (se_tup (sa_cons (se_tup (sa_cons (se_str [110, 97, 109, 101]) (sa_cons (se_call (U .l_name) hr tk (by rfl) T.f_l_name (sa_cons (se_var 3) (sa_cons (se_var 1) (sa_nil)))) (sa_nil)))) (sa_cons (se_lst (sa_cons (se_call (U .l_name) hr tk (by rfl) T.f_l_name (sa_cons (se_var 3) (sa_cons (se_var 1) (sa_nil)))) (sa_nil))) (sa_nil)))) (sa_nil))))) (ss_nil)) <|
    ss_cons (ss_for po rfl (si_rng1 (by rfl) T.z_range (sa_cons (se_callB call_lenM vc_len (by rfl) T.z_len (sa_cons (se_var 0) (sa_nil))) (sa_nil))) (sg_nm sc_l_term.nd) (ss_one (ss_if (st_cmpR op_ge vop_cmp (se_callB call_lenM vc_len (by rfl) T.z_len (sa_cons (se_var 2) (sa_nil))) (se_int) (nomark _)) (ss_cons (ss_set sc_l_term.nd (i := 5) (se_pop (se_var 2))) <|
    ss_cons (ss_set sc_l_term.nd (i := 6) (se_pop (se_var 2))) <|
    ss_one (ss_expr (se_append (se_var 2) (sa_cons (se_tup (sa_cons (se_tup (sa_cons (se_str [97, 112, 112, 108, 121]) (sa_cons (se_ix (hu_of hr) (se_var 6) (se_int)) (sa_cons (se_ix (hu_of hr) (se_var 5) (se_int)) (sa_nil))))) (sa_cons (se_bin op_addM vop_add (se_ix (hu_of hr) (se_var 6) (se_int)) (se_ix (hu_of hr) (se_var 5) (se_int))) (sa_nil)))) (sa_nil))))) (ss_nil)))) <|
    ss_one (ss_ret (se_ix (hu_of hr) (se_var 2) (se_int)))
set_option maxHeartbeats 4000000 in
theorem ok_l_nest (g : Nat) (T : Top P K mg) (U : ∀ f : FN, FnA P w K mg base g n f) : FnA P w K mg base g (n + 1) .l_nest := by
  obtain ⟨fd, hF⟩ := T.t_l_nest
  refine fn_succ (d := d_l_nest) (N := nm_l_nest) (ps := ps_l_nest) (b := Run.b_l_nest (Run.callF g n) g) hF (bn_l_nest hF) sc_l_nest (by decide) (fun cdv A outer s H E hr => ?_) (fun _ _ => rfl)
  have tk : Takes (cxOf (L2.CX P w) P w K mg base nm_l_nest d_l_nest.qual d_l_nest.scope (He.fAd K d_l_nest.at_) cdv A outer s H E) (fun c dd _ H' => E c dd H') := takes_of rfl rfl rfl rfl
  have po : PassesOwn (model P w) (A.deeper (envOfC d_l_nest.qual d_l_nest.scope s.heap.objs.size (He.fAd K d_l_nest.at_) cdv)) (envOfC d_l_nest.qual d_l_nest.scope s.heap.objs.size (He.fAd K d_l_nest.at_) cdv) (cxOf (L2.CX P w) P w K mg base nm_l_nest d_l_nest.qual d_l_nest.scope (He.fAd K d_l_nest.at_) cdv A outer s H E).xe := passes_of rfl
  exact ss_cons (ss_set sc_l_nest.nd (i := 1) (se_lst (sa_cons (se_str [120]) (sa_cons (se_str [121]) (sa_cons (se_str [122]) (sa_cons (se_str [120, 49]) (sa_cons (se_str [118, 48]) (sa_cons (se_str [118, 49]) (sa_cons (se_str [97, 50, 51, 52, 53, 54, 55, 56]) (sa_cons (se_str [98]) (sa_cons (se_str [99]) (sa_cons (se_str [120]) (sa_cons (se_str [121]) (sa_cons (se_str []) (sa_cons (se_str [88]) (sa_cons (se_str [49, 120]) (sa_cons (se_str [97, 50, 51, 52, 53, 54, 55, 56, 57]) (sa_cons (se_str [120, 32, 121]) (sa_nil))))))))))))))))))) <|
    ss_cons (ss_set sc_l_nest.nd (i := 1) (se_bin op_addM vop_add (se_var 1) (se_lst (sa_cons (se_str [120, 95]) (sa_cons (se_str [120, 89]) (sa_cons (se_str [32, 120]) (sa_cons (se_str [122, 57]) (sa_nil)))))))) <|
    ss_cons (ss_set sc_l_nest.nd (i := 2) (se_lst (sa_nil))) <|
    ss_cons (ss_for po rfl (si_seq (se_var 0)) (sg_nm sc_l_nest.nd) (ss_cons (ss_set sc_l_nest.nd (i := 4) (se_ix (hu_of hr) (se_var 1) (se_bin op_fdiv (vop_intG okDiv_ok) (se_var 3) (se_int)))) <|
    ss_one (ss_if (st_w (sw_and (st_cmpR (op_eqD hr.units) vop_eq (se_bin op_mod (vop_intG okMod_ok) (se_var 3) (se_int)) (se_int) (nomark _)) (sw_and1 (st_cmpR op_ge vop_cmp (se_callB call_lenM vc_len (by rfl) T.z_len (sa_cons (se_var 2) (sa_nil))) (se_int) (nomark _))))) (ss_cons (ss_set sc_l_nest.nd (i := 5) (se_pop (se_var 2))) <|
    ss_cons (ss_set sc_l_nest.nd (i := 6) (se_pop (se_var 2))) <|
    ss_one (ss_expr (se_append (se_var 2) (sa_cons (se_tup (sa_cons (se_str [97, 112, 112, 108, 121]) (sa_cons (se_var 6) (sa_cons (se_var 5) (sa_nil))))) (sa_nil))))) (ss_one (ss_if (st_w (sw_and (st_cmpR (op_eqD hr.units) vop_eq (se_bin op_mod (vop_intG okMod_ok) (se_var 3) (se_int)) (se_int) (nomark _)) (sw_and1 (st_cmpR (op_neD hr.units) vop_ne (se_var 2) (se_lst (sa_nil)) (nomark _))))) (ss_cons (ss_set sc_l_nest.nd (i := 5) (se_pop (se_var 2))) <|
    ss_one (ss_expr (se_append (se_var 2) (sa_cons (se_tup (sa_cons (se_str [98, 105, 110, 100]) (sa_cons (se_var 4) (sa_cons (se_var 5) (sa_nil))))) (sa_nil))))) (ss_one (ss_expr (se_append (se_var 2) (sa_cons (se_tup (sa_cons (se_str [110, 97, 109, 101]) (sa_cons (se_var 4) (sa_nil)))) (sa_nil)))))))))) <|
    ss_cons (ss_if (st_cmpR (op_eqD hr.units) vop_eq (se_var 2) (se_lst (sa_nil)) (nomark _)) (ss_one (ss_expr (se_append (se_var 2) (sa_cons (se_tup (sa_cons (se_str [110, 97, 109, 101]) (sa_cons (se_str [120]) (sa_nil)))) (sa_nil))))) (ss_nil)) <|
    ss_cons (ss_for po rfl (si_rng1 (by rfl) T.z_range (sa_cons (se_callB call_lenM vc_len (by rfl) T.z_len (sa_cons (se_var 0) (sa_nil))) (sa_nil))) (sg_nm sc_l_nest.nd) (ss_one (ss_if (st_cmpR op_ge vop_cmp (se_callB call_lenM vc_len (by rfl) T.z_len (sa_cons (se_var 2) (sa_nil))) (se_int) (nomark _)) (ss_cons (ss_set sc_l_nest.nd (i := 5) (se_pop (se_var 2))) <|
    ss_cons (ss_set sc_l_nest.nd (i := 6) (se_pop (se_var 2))) <|
    ss_one (ss_expr (se_append (se_var 2) (sa_cons (se_tup (sa_cons (se_str [97, 112, 112, 108, 121]) (sa_cons (se_var 6) (sa_cons (se_var 5) (sa_nil))))) (sa_nil))))) (ss_nil)))) <|
    ss_one (ss_ret (se_ix (hu_of hr) (se_var 2) (se_int)))
set_option maxHeartbeats 4000000 in
theorem ok_l_chain (g : Nat) (T : Top P K mg) (U : ∀ f : FN, FnA P w K mg base g n f) : FnA P w K mg base g (n + 1) .l_chain := by
  obtain ⟨fd, hF⟩ := T.t_l_chain
  refine fn_succ (d := d_l_chain) (N := nm_l_chain) (ps := ps_l_chain) (b := Run.b_l_chain (Run.callF g n) g) hF (bn_l_chain hF) sc_l_chain (by decide) (fun cdv A outer s H E hr => ?_) (fun _ _ => rfl)
  have tk : Takes (cxOf (L2.CX P w) P w K mg base nm_l_chain d_l_chain.qual d_l_chain.scope (He.fAd K d_l_chain.at_) cdv A outer s H E) (fun c dd _ H' => E c dd H') := takes_of rfl rfl rfl rfl
  have po : PassesOwn (model P w) (A.deeper (envOfC d_l_chain.qual d_l_chain.scope s.heap.objs.size (He.fAd K d_l_chain.at_) cdv)) (envOfC d_l_chain.qual d_l_chain.scope s.heap.objs.size (He.fAd K d_l_chain.at_) cdv) (cxOf (L2.CX P w) P w K mg base nm_l_chain d_l_chain.qual d_l_chain.scope (He.fAd K d_l_chain.at_) cdv A outer s H E).xe := passes_of rfl
  exact ss_cons (ss_set sc_l_chain.nd (i := 3) (se_tup (sa_cons (se_str [110, 97, 109, 101]) (sa_cons (se_str [117, 48]) (sa_nil))))) <|
    ss_cons (ss_for po rfl (si_rng2 (by rfl) T.z_range (sa_cons (se_int) (sa_cons (se_bin op_sub vop_int (se_bin op_addM vop_add (se_var 0) (se_int)) (se_var 1)) (sa_nil)))) (sg_nm sc_l_chain.nd) (ss_one (ss_if (st_truth (se_var 2)) (ss_one (ss_set sc_l_chain.nd (i := 3) (se_tup (sa_cons (se_str [97, 112, 112, 108, 121]) (sa_cons (se_tup (sa_cons (se_str [110, 97, 109, 101]) (sa_cons (se_bin op_addM vop_add (se_str [117]) (se_callT call_str_int vc_str (by rfl) T.z_str (sa_cons (se_var 4) (sa_nil)))) (sa_nil)))) (sa_cons (se_var 3) (sa_nil))))))) (ss_one (ss_set sc_l_chain.nd (i := 3) (se_tup (sa_cons (se_str [97, 112, 112, 108, 121]) (sa_cons (se_var 3) (sa_cons (se_tup (sa_cons (se_str [110, 97, 109, 101]) (sa_cons (se_bin op_addM vop_add (se_str [117]) (se_callT call_str_int vc_str (by rfl) T.z_str (sa_cons (se_var 4) (sa_nil)))) (sa_nil)))) (sa_nil)))))))))) <|
    ss_cons (ss_for po rfl (si_rng1 (by rfl) T.z_range (sa_cons (se_var 1) (sa_nil))) (sg_nm sc_l_chain.nd) (ss_one (ss_set sc_l_chain.nd (i := 3) (se_tup (sa_cons (se_str [98, 105, 110, 100]) (sa_cons (se_bin op_addM vop_add (se_str [117]) (se_callT call_str_int vc_str (by rfl) T.z_str (sa_cons (se_var 4) (sa_nil)))) (sa_cons (se_var 3) (sa_nil)))))))) <|
    ss_one (ss_ret (se_var 3))
set_option maxHeartbeats 4000000 in
theorem ok_l_bushy (g : Nat) (T : Top P K mg) (U : ∀ f : FN, FnA P w K mg base g n f) : FnA P w K mg base g (n + 1) .l_bushy := by
  obtain ⟨fd, hF⟩ := T.t_l_bushy
  refine fn_succ (d := d_l_bushy) (N := nm_l_bushy) (ps := ps_l_bushy) (b := Run.b_l_bushy (Run.callF g n) g) hF (bn_l_bushy hF) sc_l_bushy (by decide) (fun cdv A outer s H E hr => ?_) (fun _ _ => rfl)
  have tk : Takes (cxOf (L2.CX P w) P w K mg base nm_l_bushy d_l_bushy.qual d_l_bushy.scope (He.fAd K d_l_bushy.at_) cdv A outer s H E) (fun c dd _ H' => E c dd H') := takes_of rfl rfl rfl rfl
  have po : PassesOwn (model P w) (A.deeper (envOfC d_l_bushy.qual d_l_bushy.scope s.heap.objs.size (He.fAd K d_l_bushy.at_) cdv)) (envOfC d_l_bushy.qual d_l_bushy.scope s.heap.objs.size (He.fAd K d_l_bushy.at_) cdv) (cxOf (L2.CX P w) P w K mg base nm_l_bushy d_l_bushy.qual d_l_bushy.scope (He.fAd K d_l_bushy.at_) cdv A outer s H E).xe := passes_of rfl
  exact ss_cons (ss_set sc_l_bushy.nd (i := 1) (se_call (U .l_at) hr tk (by rfl) T.f_l_at (sa_cons (se_var 0) (sa_cons (se_int) (sa_nil))))) <|
    ss_cons (ss_set sc_l_bushy.nd (i := 2) (se_ix (hu_of hr) (se_lst (sa_cons (se_int) (sa_cons (se_int) (sa_cons (se_bin op_addM vop_add (se_int) (se_var 1)) (sa_cons (se_bin op_sub vop_int (se_int) (se_var 1)) (sa_cons (se_bin op_addM vop_add (se_int) (se_bin op_mulM vop_mul (se_int) (se_var 1))) (sa_cons (se_int) (sa_nil)))))))) (se_bin op_mod (vop_intG okMod_ok) (se_callT call_int1 vc_int (by rfl) T.z_int (sa_cons (se_call (U .l_at) hr tk (by rfl) T.f_l_at (sa_cons (se_var 0) (sa_cons (se_int) (sa_nil)))) (sa_nil))) (se_int)))) <|
    ss_cons (ss_set sc_l_bushy.nd (i := 3) (se_bin op_mod (vop_intG okMod_ok) (se_callT call_int1 vc_int (by rfl) T.z_int (sa_cons (se_call (U .l_at) hr tk (by rfl) T.f_l_at (sa_cons (se_var 0) (sa_cons (se_int) (sa_nil)))) (sa_nil))) (se_int))) <|
    ss_cons (ss_set sc_l_bushy.nd (i := 4) (se_lst (sa_nil))) <|
    ss_cons (ss_for po rfl (si_rng1 (by rfl) T.z_range (sa_cons (se_var 2) (sa_nil))) (sg_nm sc_l_bushy.nd) (ss_cons (ss_set sc_l_bushy.nd (i := 6) (se_tup (sa_cons (se_str [110, 97, 109, 101]) (sa_cons (se_bin op_addM vop_add (se_str [117]) (se_callT call_str_int vc_str (by rfl) T.z_str (sa_cons (se_var 5) (sa_nil)))) (sa_nil))))) <|
    ss_cons (ss_if (st_w (sw_and (st_cmpR op_gt vop_cmp (se_var 3) (se_int) (nomark _)) (sw_and (st_cmpR op_le vop_cmp (se_var 2) (se_int) (nomark _)) (sw_and1 (st_cmpR (op_eqD hr.units) vop_eq (se_bin op_mod (vop_intG okMod_ok) (se_var 5) (se_var 3)) (se_int) (nomark _)))))) (ss_one (ss_set sc_l_bushy.nd (i := 6) (se_tup (sa_cons (se_str [98, 105, 110, 100]) (sa_cons (se_bin op_addM vop_add (se_str [117]) (se_callT call_str_int vc_str (by rfl) T.z_str (sa_cons (se_var 5) (sa_nil)))) (sa_cons (se_var 6) (sa_nil))))))) (ss_nil)) <|
    ss_one (ss_expr (se_append (se_var 4) (sa_cons (se_var 6) (sa_nil)))))) <|
    ss_cons (ss_for po rfl (si_rng1 (by rfl) T.z_range (sa_cons (se_int) (sa_nil))) (sg_nm sc_l_bushy.nd) (ss_cons (ss_setLc (j := 8) (own := [("k", 5)]) (sl := [5]) rfl sc_l_bushy.nd (sw_true rfl rfl rfl (by decide +kernel)) (si_rng1 (by rfl) T.z_range (sa_cons (se_bin op_fdiv (vop_intG okDiv_ok) (se_callB call_lenM vc_len (by rfl) T.z_len (sa_cons (se_var 4) (sa_nil))) (se_int)) (sa_nil))) (blkOk_by (own := [("k", 5)]) (N := nm_l_bushy) (sc := d_l_bushy.scope) (by decide +kernel)) (fun _ _ _ _ _ => sg_nm sc_l_bushy.nd) (fun _ _ _ _ _ => sts_nil) (fun _ _ _ _ _ => se_tup (sa_cons (se_str [97, 112, 112, 108, 121]) (sa_cons (se_ix (hu_of hr) (se_var 4) (se_bin op_mulM vop_mul (se_int) (se_var 5))) (sa_cons (se_ix (hu_of hr) (se_var 4) (se_bin op_addM vop_add (se_bin op_mulM vop_mul (se_int) (se_var 5)) (se_int))) (sa_nil)))))) <|
    ss_one (ss_set sc_l_bushy.nd (i := 4) (se_bin op_addM vop_add (se_var 8) (se_slice (se_var 4) (so_some (se_bin op_mulM vop_mul (se_bin op_fdiv (vop_intG okDiv_ok) (se_callB call_lenM vc_len (by rfl) T.z_len (sa_cons (se_var 4) (sa_nil))) (se_int)) (se_int))) (so_none)))))) <|
    ss_one (ss_ret (se_ix (hu_of hr) (se_var 4) (se_int)))
set_option maxHeartbeats 4000000 in
theorem ok_l_built (g : Nat) (T : Top P K mg) (U : ∀ f : FN, FnA P w K mg base g n f) : FnA P w K mg base g (n + 1) .l_built := by
  obtain ⟨fd, hF⟩ := T.t_l_built
  refine fn_succ (d := d_l_built) (N := nm_l_built) (ps := ps_l_built) (b := Run.b_l_built (Run.callF g n) g) hF (bn_l_built hF) sc_l_built (by decide) (fun cdv A outer s H E hr => ?_) (fun _ _ => rfl)
  have tk : Takes (cxOf (L2.CX P w) P w K mg base nm_l_built d_l_built.qual d_l_built.scope (He.fAd K d_l_built.at_) cdv A outer s H E) (fun c dd _ H' => E c dd H') := takes_of rfl rfl rfl rfl
  have po : PassesOwn (model P w) (A.deeper (envOfC d_l_built.qual d_l_built.scope s.heap.objs.size (He.fAd K d_l_built.at_) cdv)) (envOfC d_l_built.qual d_l_built.scope s.heap.objs.size (He.fAd K d_l_built.at_) cdv) (cxOf (L2.CX P w) P w K mg base nm_l_built d_l_built.qual d_l_built.scope (He.fAd K d_l_built.at_) cdv A outer s H E).xe := passes_of rfl
  exact ss_cons (ss_set sc_l_built.nd (i := 1) (se_bin op_mod (vop_intG okMod_ok) (se_callT call_int1 vc_int (by rfl) T.z_int (sa_cons (se_call (U .l_cell) hr tk (by rfl) T.f_l_cell (sa_cons (se_var 0) (sa_cons (se_int) (sa_nil)))) (sa_nil))) (se_int))) <|
    ss_cons (ss_set sc_l_built.nd (i := 2) (se_call (U .l_digits) hr tk (by rfl) T.f_l_digits (sa_cons (se_call (U .l_cell) hr tk (by rfl) T.f_l_cell (sa_cons (se_var 0) (sa_cons (se_int) (sa_nil)))) (sa_cons (se_int) (sa_cons (se_int) (sa_nil)))))) <|
    ss_cons (ss_if (st_cmpR op_lt vop_cmp (se_var 1) (se_int) (nomark _)) (ss_one (ss_ret (se_call (U .l_nest) hr tk (by rfl) T.f_l_nest (sa_cons (se_var 2) (sa_nil))))) (ss_nil)) <|
    ss_cons (ss_if (st_cmpR (op_eqD hr.units) vop_eq (se_var 1) (se_int) (nomark _)) (ss_cons (ss_set sc_l_built.nd (i := 3) (se_callT call_int1 vc_int (by rfl) T.z_int (sa_cons (se_call (U .l_at) hr tk (by rfl) T.f_l_at (sa_cons (se_var 2) (sa_cons (se_int) (sa_nil)))) (sa_nil)))) <|
    ss_cons (ss_set sc_l_built.nd (i := 4) (se_ix (hu_of hr) (se_lst (sa_cons (se_int) (sa_cons (se_int) (sa_cons (se_int) (sa_cons (se_int) (sa_cons (se_int) (sa_cons (se_int) (sa_cons (se_bin op_addM vop_add (se_int) (se_var 3)) (sa_cons (se_bin op_sub vop_int (se_int) (se_var 3)) (sa_nil)))))))))) (se_bin op_mod (vop_intG okMod_ok) (se_callT call_int1 vc_int (by rfl) T.z_int (sa_cons (se_call (U .l_at) hr tk (by rfl) T.f_l_at (sa_cons (se_var 2) (sa_cons (se_int) (sa_nil)))) (sa_nil))) (se_int)))) <|
    ss_cons (ss_set sc_l_built.nd (i := 5) (se_bin op_mod (vop_intG okMod_ok) (se_bin op_mod (vop_intG okMod_ok) (se_callT call_int1 vc_int (by rfl) T.z_int (sa_cons (se_call (U .l_at) hr tk (by rfl) T.f_l_at (sa_cons (se_var 2) (sa_cons (se_int) (sa_nil)))) (sa_nil))) (se_int)) (se_bin op_addM vop_add (se_bin op_fdiv (vop_intG okDiv_ok) (se_var 4) (se_int)) (se_int)))) <|
    ss_one (ss_ret (se_call (U .l_chain) hr tk (by rfl) T.f_l_chain (sa_cons (se_var 4) (sa_cons (se_var 5) (sa_cons (se_cmpR (op_eqD hr.units) vop_eq (se_bin op_mod (vop_intG okMod_ok) (se_callT call_int1 vc_int (by rfl) T.z_int (sa_cons (se_call (U .l_at) hr tk (by rfl) T.f_l_at (sa_cons (se_var 2) (sa_cons (se_int) (sa_nil)))) (sa_nil))) (se_int)) (se_int) (nomark _)) (sa_nil))))))) (ss_nil)) <|
    ss_cons (ss_if (st_cmpR (op_eqD hr.units) vop_eq (se_var 1) (se_int) (nomark _)) (ss_one (ss_ret (se_call (U .l_bushy) hr tk (by rfl) T.f_l_bushy (sa_cons (se_var 2) (sa_nil))))) (ss_nil)) <|
    ss_one (ss_ret (se_ix (hu_of hr) (se_call (U .l_term) hr tk (by rfl) T.f_l_term (sa_cons (se_slice (se_var 2) (so_none) (so_some (se_int))) (sa_cons (se_bin op_mod (vop_intG okMod_ok) (se_bin op_fdiv (vop_intG okDiv_ok) (se_callT call_int1 vc_int (by rfl) T.z_int (sa_cons (se_call (U .l_cell) hr tk (by rfl) T.f_l_cell (sa_cons (se_var 0) (sa_cons (se_int) (sa_nil)))) (sa_nil))) (se_int)) (se_int)) (sa_nil)))) (se_int)))
set_option maxHeartbeats 4000000 in
theorem ok_l_strings (g : Nat) (T : Top P K mg) (U : ∀ f : FN, FnA P w K mg base g n f) : FnA P w K mg base g (n + 1) .l_strings := by
  obtain ⟨fd, hF⟩ := T.t_l_strings
  refine fn_succ (d := d_l_strings) (N := nm_l_strings) (ps := ps_l_strings) (b := Run.b_l_strings (Run.callF g n) g) hF (bn_l_strings hF) sc_l_strings (by decide) (fun cdv A outer s H E hr => ?_) (fun _ _ => rfl)
  have tk : Takes (cxOf (L2.CX P w) P w K mg base nm_l_strings d_l_strings.qual d_l_strings.scope (He.fAd K d_l_strings.at_) cdv A outer s H E) (fun c dd _ H' => E c dd H') := takes_of rfl rfl rfl rfl
  have po : PassesOwn (model P w) (A.deeper (envOfC d_l_strings.qual d_l_strings.scope s.heap.objs.size (He.fAd K d_l_strings.at_) cdv)) (envOfC d_l_strings.qual d_l_strings.scope s.heap.objs.size (He.fAd K d_l_strings.at_) cdv) (cxOf (L2.CX P w) P w K mg base nm_l_strings d_l_strings.qual d_l_strings.scope (He.fAd K d_l_strings.at_) cdv A outer s H E).xe := passes_of rfl
  exact ss_cons (ss_if (st_cmpR (op_eqD hr.units) vop_eq (se_ix (hu_of hr) (se_var 0) (se_int)) (se_str [97, 112, 112, 108, 121]) (nomark _)) (ss_one (ss_ret (se_bin op_addM vop_add (se_call (U .l_strings) hr tk (by rfl) T.f_l_strings (sa_cons (se_ix (hu_of hr) (se_var 0) (se_int)) (sa_nil))) (se_call (U .l_strings) hr tk (by rfl) T.f_l_strings (sa_cons (se_ix (hu_of hr) (se_var 0) (se_int)) (sa_nil)))))) (ss_nil)) <|
    ss_cons (ss_if (st_cmpR (op_eqD hr.units) vop_eq (se_ix (hu_of hr) (se_var 0) (se_int)) (se_str [110, 97, 109, 101]) (nomark _)) (ss_one (ss_ret (se_lst (sa_cons (se_ix (hu_of hr) (se_var 0) (se_int)) (sa_nil))))) (ss_nil)) <|
    ss_one (ss_ret (se_bin op_addM vop_add (se_lst (sa_cons (se_ix (hu_of hr) (se_var 0) (se_int)) (sa_nil))) (se_call (U .l_strings) hr tk (by rfl) T.f_l_strings (sa_cons (se_ix (hu_of hr) (se_var 0) (se_int)) (sa_nil)))))
set_option maxHeartbeats 4000000 in
theorem ok_l_dressed (g : Nat) (T : Top P K mg) (U : ∀ f : FN, FnA P w K mg base g n f) : FnA P w K mg base g (n + 1) .l_dressed := by
  obtain ⟨fd, hF⟩ := T.t_l_dressed
  refine fn_succ (d := d_l_dressed) (N := nm_l_dressed) (ps := ps_l_dressed) (b := Run.b_l_dressed (Run.callF g n) g) hF (bn_l_dressed hF) sc_l_dressed (by decide) (fun cdv A outer s H E hr => ?_) (fun _ _ => rfl)
  have tk : Takes (cxOf (L2.CX P w) P w K mg base nm_l_dressed d_l_dressed.qual d_l_dressed.scope (He.fAd K d_l_dressed.at_) cdv A outer s H E) (fun c dd _ H' => E c dd H') := takes_of rfl rfl rfl rfl
  have po : PassesOwn (model P w) (A.deeper (envOfC d_l_dressed.qual d_l_dressed.scope s.heap.objs.size (He.fAd K d_l_dressed.at_) cdv)) (envOfC d_l_dressed.qual d_l_dressed.scope s.heap.objs.size (He.fAd K d_l_dressed.at_) cdv) (cxOf (L2.CX P w) P w K mg base nm_l_dressed d_l_dressed.qual d_l_dressed.scope (He.fAd K d_l_dressed.at_) cdv A outer s H E).xe := passes_of rfl
  exact ss_cons (ss_if (st_cmpR (op_eqD hr.units) vop_eq (se_ix (hu_of hr) (se_var 0) (se_int)) (se_str [97, 112, 112, 108, 121]) (nomark _)) (ss_cons (ss_set sc_l_dressed.nd (i := 2) (se_call (U .l_dressed) hr tk (by rfl) T.f_l_dressed (sa_cons (se_ix (hu_of hr) (se_var 0) (se_int)) (sa_cons (se_var 1) (sa_nil))))) <|
    ss_one (ss_ret (se_tup (sa_cons (se_str [97, 112, 112, 108, 121]) (sa_cons (se_var 2) (sa_cons (se_call (U .l_dressed) hr tk (by rfl) T.f_l_dressed (sa_cons (se_ix (hu_of hr) (se_var 0) (se_int)) (sa_cons (se_var 1) (sa_nil)))) (sa_nil))))))) (ss_nil)) <|
    ss_cons (ss_set sc_l_dressed.nd (i := 3) (se_popAt (se_var 1) (sa_cons (se_int) (sa_nil)))) <|
    ss_cons (ss_if (st_cmpR (op_eqD hr.units) vop_eq (se_ix (hu_of hr) (se_var 0) (se_int)) (se_str [110, 97, 109, 101]) (nomark _)) (ss_one (ss_ret (se_tup (sa_cons (se_str [110, 97, 109, 101]) (sa_cons (se_var 3) (sa_nil)))))) (ss_nil)) <|
    ss_one (ss_ret (se_tup (sa_cons (se_str [98, 105, 110, 100]) (sa_cons (se_var 3) (sa_cons (se_call (U .l_dressed) hr tk (by rfl) T.f_l_dressed (sa_cons (se_ix (hu_of hr) (se_var 0) (se_int)) (sa_cons (se_var 1) (sa_nil)))) (sa_nil))))))
set_option maxHeartbeats 4000000 in
theorem ok_l_changed (g : Nat) (T : Top P K mg) (U : ∀ f : FN, FnA P w K mg base g n f) : FnA P w K mg base g (n + 1) .l_changed := by
  obtain ⟨fd, hF⟩ := T.t_l_changed
  refine fn_succ (d := d_l_changed) (N := nm_l_changed) (ps := ps_l_changed) (b := Run.b_l_changed (Run.callF g n) g) hF (bn_l_changed hF) sc_l_changed (by decide) (fun cdv A outer s H E hr => ?_) (fun _ _ => rfl)
  have tk : Takes (cxOf (L2.CX P w) P w K mg base nm_l_changed d_l_changed.qual d_l_changed.scope (He.fAd K d_l_changed.at_) cdv A outer s H E) (fun c dd _ H' => E c dd H') := takes_of rfl rfl rfl rfl
  have po : PassesOwn (model P w) (A.deeper (envOfC d_l_changed.qual d_l_changed.scope s.heap.objs.size (He.fAd K d_l_changed.at_) cdv)) (envOfC d_l_changed.qual d_l_changed.scope s.heap.objs.size (He.fAd K d_l_changed.at_) cdv) (cxOf (L2.CX P w) P w K mg base nm_l_changed d_l_changed.qual d_l_changed.scope (He.fAd K d_l_changed.at_) cdv A outer s H E).xe := passes_of rfl
  exact ss_cons (ss_set sc_l_changed.nd (i := 2) (se_callT call_list_of vc_list (by rfl) T.z_list (sa_cons (se_var 0) (sa_nil)))) <|
    ss_cons (ss_for po rfl (si_rng1 (by rfl) T.z_range (sa_cons (se_bin op_addM vop_add (se_int) (se_bin op_mod (vop_intG okMod_ok) (se_callT call_int1 vc_int (by rfl) T.z_int (sa_cons (se_call (U .l_at) hr tk (by rfl) T.f_l_at (sa_cons (se_var 1) (sa_cons (se_int) (sa_nil)))) (sa_nil))) (se_int))) (sa_nil))) (sg_nm sc_l_changed.nd) (ss_cons (ss_set sc_l_changed.nd (i := 4) (se_bin op_addM vop_add (se_var 2) (se_lst (sa_cons (se_str [113]) (sa_cons (se_str [118, 48]) (sa_cons (se_str []) (sa_cons (se_str [88]) (sa_cons (se_str [49, 120]) (sa_cons (se_str [97, 50, 51, 52, 53, 54, 55, 56]) (sa_cons (se_str [97, 50, 51, 52, 53, 54, 55, 56, 57]) (sa_cons (se_str [120, 32, 121]) (sa_cons (se_str [113, 95]) (sa_cons (se_str [48]) (sa_nil)))))))))))))) <|
    ss_cons (ss_set sc_l_changed.nd (i := 5) (se_bin op_mod (vop_intG okMod_ok) (se_callT call_int1 vc_int (by rfl) T.z_int (sa_cons (se_call (U .l_at) hr tk (by rfl) T.f_l_at (sa_cons (se_var 1) (sa_cons (se_bin op_addM vop_add (se_int) (se_bin op_mulM vop_mul (se_int) (se_var 3))) (sa_nil)))) (sa_nil))) (se_int))) <|
    ss_cons (ss_set sc_l_changed.nd (i := 6) (se_bin op_mod (vop_intG okMod_ok) (se_callT call_int1 vc_int (by rfl) T.z_int (sa_cons (se_bin op_addM vop_add (se_bin op_mulM vop_mul (se_int) (se_call (U .l_at) hr tk (by rfl) T.f_l_at (sa_cons (se_var 1) (sa_cons (se_bin op_addM vop_add (se_int) (se_bin op_mulM vop_mul (se_int) (se_var 3))) (sa_nil))))) (se_call (U .l_at) hr tk (by rfl) T.f_l_at (sa_cons (se_var 1) (sa_cons (se_bin op_addM vop_add (se_int) (se_bin op_mulM vop_mul (se_int) (se_var 3))) (sa_nil))))) (sa_nil))) (se_callB call_lenM vc_len (by rfl) T.z_len (sa_cons (se_var 2) (sa_nil))))) <|
    ss_cons (ss_set sc_l_changed.nd (i := 7) (se_callT call_int1 vc_int (by rfl) T.z_int (sa_cons (se_bin op_addM vop_add (se_bin op_mulM vop_mul (se_int) (se_call (U .l_at) hr tk (by rfl) T.f_l_at (sa_cons (se_var 1) (sa_cons (se_bin op_addM vop_add (se_int) (se_bin op_mulM vop_mul (se_int) (se_var 3))) (sa_nil))))) (se_call (U .l_at) hr tk (by rfl) T.f_l_at (sa_cons (se_var 1) (sa_cons (se_bin op_addM vop_add (se_int) (se_bin op_mulM vop_mul (se_int) (se_var 3))) (sa_nil))))) (sa_nil)))) <|
    ss_one (ss_if (st_cmpR (op_eqD hr.units) vop_eq (se_var 5) (se_int) (nomark _)) (ss_cons (ss_set sc_l_changed.nd (i := 7) (se_bin op_mod (vop_intG okMod_ok) (se_var 7) (se_callB call_lenM vc_len (by rfl) T.z_len (sa_cons (se_var 2) (sa_nil))))) <|
    ss_cons (ss_set sc_l_changed.nd (i := 8) (se_ix (hu_of hr) (se_var 2) (se_var 6))) <|
    ss_cons (ss_setIx (hu_of hr) (se_var 2) (se_var 6) (se_ix (hu_of hr) (se_var 2) (se_var 7))) <|
    ss_one (ss_setIx (hu_of hr) (se_var 2) (se_var 7) (se_var 8))) (ss_one (ss_setIx (hu_of hr) (se_var 2) (se_var 6) (se_ix (hu_of hr) (se_var 4) (se_bin op_mod (vop_intG okMod_ok) (se_var 7) (se_callB call_lenM vc_len (by rfl) T.z_len (sa_cons (se_var 4) (sa_nil)))))))))) <|
    ss_one (ss_ret (se_var 2))
set_option maxHeartbeats 4000000 in
theorem ok_l_named (g : Nat) (T : Top P K mg) (U : ∀ f : FN, FnA P w K mg base g n f) : FnA P w K mg base g (n + 1) .l_named := by
  obtain ⟨fd, hF⟩ := T.t_l_named
  refine fn_succ (d := d_l_named) (N := nm_l_named) (ps := ps_l_named) (b := Run.b_l_named (Run.callF g n) g) hF (bn_l_named hF) sc_l_named (by decide) (fun cdv A outer s H E hr => ?_) (fun _ _ => rfl)
  have tk : Takes (cxOf (L2.CX P w) P w K mg base nm_l_named d_l_named.qual d_l_named.scope (He.fAd K d_l_named.at_) cdv A outer s H E) (fun c dd _ H' => E c dd H') := takes_of rfl rfl rfl rfl
  have po : PassesOwn (model P w) (A.deeper (envOfC d_l_named.qual d_l_named.scope s.heap.objs.size (He.fAd K d_l_named.at_) cdv)) (envOfC d_l_named.qual d_l_named.scope s.heap.objs.size (He.fAd K d_l_named.at_) cdv) (cxOf (L2.CX P w) P w K mg base nm_l_named d_l_named.qual d_l_named.scope (He.fAd K d_l_named.at_) cdv A outer s H E).xe := passes_of rfl
  exact ss_cons (ss_set sc_l_named.nd (i := 1) (se_str [97, 98, 99, 100, 101, 102, 103, 104, 105, 106, 107, 108, 109, 110, 111, 112, 113, 114, 115, 116, 117, 118, 119, 120, 121, 122])) <|
    ss_cons (ss_if (st_w (sw_or (st_cmpR op_lt vop_cmp (se_callB call_lenM vc_len (by rfl) T.z_len (sa_cons (se_var 0) (sa_nil))) (se_int) (nomark _)) (sw_or1 (st_cmpR op_gt vop_cmp (se_callB call_lenM vc_len (by rfl) T.z_len (sa_cons (se_var 0) (sa_nil))) (se_int) (nomark _))))) (ss_one (ss_ret (se_bl))) (ss_nil)) <|
    ss_cons (ss_for po rfl (si_rng1 (by rfl) T.z_range (sa_cons (se_callB call_lenM vc_len (by rfl) T.z_len (sa_cons (se_var 0) (sa_nil))) (sa_nil))) (sg_nm sc_l_named.nd) (ss_one (ss_if (st_w (sw_and (st_cmpR (op_ninA (hu65 hr)) vop_nin (se_ix (hu_of hr) (se_var 0) (se_var 2)) (se_var 1) (by rfl)) (sw_and1 (st_w (sw_or (st_cmpR (op_eqD hr.units) vop_eq (se_var 2) (se_int) (nomark _)) (sw_or1 (st_cmpR (op_ninA (hu65 hr)) vop_nin (se_ix (hu_of hr) (se_var 0) (se_var 2)) (se_str [48, 49, 50, 51, 52, 53, 54, 55, 56, 57]) (by rfl)))))))) (ss_one (ss_ret (se_bl))) (ss_nil)))) <|
    ss_one (ss_ret (se_bl))
set_option maxHeartbeats 4000000 in
theorem ok_l_events (g : Nat) (T : Top P K mg) (U : ∀ f : FN, FnA P w K mg base g n f) : FnA P w K mg base g (n + 1) .l_events := by
  obtain ⟨fd, hF⟩ := T.t_l_events
  refine fn_succ (d := d_l_events) (N := nm_l_events) (ps := ps_l_events) (b := Run.b_l_events (Run.callF g n) g) hF (bn_l_events hF) sc_l_events (by decide) (fun cdv A outer s H E hr => ?_) (fun _ _ => rfl)
  have tk : Takes (cxOf (L2.CX P w) P w K mg base nm_l_events d_l_events.qual d_l_events.scope (He.fAd K d_l_events.at_) cdv A outer s H E) (fun c dd _ H' => E c dd H') := takes_of rfl rfl rfl rfl
  have po : PassesOwn (model P w) (A.deeper (envOfC d_l_events.qual d_l_events.scope s.heap.objs.size (He.fAd K d_l_events.at_) cdv)) (envOfC d_l_events.qual d_l_events.scope s.heap.objs.size (He.fAd K d_l_events.at_) cdv) (cxOf (L2.CX P w) P w K mg base nm_l_events d_l_events.qual d_l_events.scope (He.fAd K d_l_events.at_) cdv A outer s H E).xe := passes_of rfl
  exact ss_cons (ss_if (st_cmpR (op_eqD hr.units) vop_eq (se_ix (hu_of hr) (se_var 0) (se_int)) (se_str [97, 112, 112, 108, 121]) (nomark _)) (ss_one (ss_ret (se_bin op_addM vop_add (se_call (U .l_events) hr tk (by rfl) T.f_l_events (sa_cons (se_ix (hu_of hr) (se_var 0) (se_int)) (sa_nil))) (se_call (U .l_events) hr tk (by rfl) T.f_l_events (sa_cons (se_ix (hu_of hr) (se_var 0) (se_int)) (sa_nil)))))) (ss_nil)) <|
    ss_cons (ss_if (st_cmpR (op_eqD hr.units) vop_eq (se_ix (hu_of hr) (se_var 0) (se_int)) (se_str [110, 97, 109, 101]) (nomark _)) (ss_one (ss_ret (se_lst (sa_cons (se_tup (sa_cons (se_str [117, 115, 101]) (sa_cons (se_ix (hu_of hr) (se_var 0) (se_int)) (sa_nil)))) (sa_nil))))) (ss_nil)) <|
    ss_one (ss_ret (se_bin op_addM vop_add (se_bin op_addM vop_add (se_lst (sa_cons (se_tup (sa_cons (se_str [98, 105, 110, 100]) (sa_cons (se_ix (hu_of hr) (se_var 0) (se_int)) (sa_nil)))) (sa_nil))) (se_call (U .l_events) hr tk (by rfl) T.f_l_events (sa_cons (se_ix (hu_of hr) (se_var 0) (se_int)) (sa_nil)))) (se_lst (sa_cons (se_tup (sa_cons (se_str [101, 110, 100]) (sa_cons (se_ix (hu_of hr) (se_var 0) (se_int)) (sa_nil)))) (sa_nil)))))
set_option maxHeartbeats 4000000 in
theorem ok_l_nodes (g : Nat) (T : Top P K mg) (U : ∀ f : FN, FnA P w K mg base g n f) : FnA P w K mg base g (n + 1) .l_nodes := by
  obtain ⟨fd, hF⟩ := T.t_l_nodes
  refine fn_succ (d := d_l_nodes) (N := nm_l_nodes) (ps := ps_l_nodes) (b := Run.b_l_nodes (Run.callF g n) g) hF (bn_l_nodes hF) sc_l_nodes (by decide) (fun cdv A outer s H E hr => ?_) (fun _ _ => rfl)
  have tk : Takes (cxOf (L2.CX P w) P w K mg base nm_l_nodes d_l_nodes.qual d_l_nodes.scope (He.fAd K d_l_nodes.at_) cdv A outer s H E) (fun c dd _ H' => E c dd H') := takes_of rfl rfl rfl rfl
  have po : PassesOwn (model P w) (A.deeper (envOfC d_l_nodes.qual d_l_nodes.scope s.heap.objs.size (He.fAd K d_l_nodes.at_) cdv)) (envOfC d_l_nodes.qual d_l_nodes.scope s.heap.objs.size (He.fAd K d_l_nodes.at_) cdv) (cxOf (L2.CX P w) P w K mg base nm_l_nodes d_l_nodes.qual d_l_nodes.scope (He.fAd K d_l_nodes.at_) cdv A outer s H E).xe := passes_of rfl
  exact ss_cons (ss_if (st_cmpR (op_eqD hr.units) vop_eq (se_ix (hu_of hr) (se_var 0) (se_int)) (se_str [110, 97, 109, 101]) (nomark _)) (ss_one (ss_ret (se_int))) (ss_nil)) <|
    ss_cons (ss_if (st_cmpR (op_eqD hr.units) vop_eq (se_ix (hu_of hr) (se_var 0) (se_int)) (se_str [98, 105, 110, 100]) (nomark _)) (ss_one (ss_ret (se_bin op_addM vop_add (se_int) (se_call (U .l_nodes) hr tk (by rfl) T.f_l_nodes (sa_cons (se_ix (hu_of hr) (se_var 0) (se_int)) (sa_nil)))))) (ss_nil)) <|
    ss_one (ss_ret (se_bin op_addM vop_add (se_bin op_addM vop_add (se_int) (se_call (U .l_nodes) hr tk (by rfl) T.f_l_nodes (sa_cons (se_ix (hu_of hr) (se_var 0) (se_int)) (sa_nil)))) (se_call (U .l_nodes) hr tk (by rfl) T.f_l_nodes (sa_cons (se_ix (hu_of hr) (se_var 0) (se_int)) (sa_nil)))))
set_option maxHeartbeats 4000000 in
theorem ok_l_fault (g : Nat) (T : Top P K mg) (U : ∀ f : FN, FnA P w K mg base g n f) : FnA P w K mg base g (n + 1) .l_fault := by
  obtain ⟨fd, hF⟩ := T.t_l_fault
  refine fn_succ (d := d_l_fault) (N := nm_l_fault) (ps := ps_l_fault) (b := Run.b_l_fault (Run.callF g n) g) hF (bn_l_fault hF) sc_l_fault (by decide) (fun cdv A outer s H E hr => ?_) (fun _ _ => rfl)
  have tk : Takes (cxOf (L2.CX P w) P w K mg base nm_l_fault d_l_fault.qual d_l_fault.scope (He.fAd K d_l_fault.at_) cdv A outer s H E) (fun c dd _ H' => E c dd H') := takes_of rfl rfl rfl rfl
  have po : PassesOwn (model P w) (A.deeper (envOfC d_l_fault.qual d_l_fault.scope s.heap.objs.size (He.fAd K d_l_fault.at_) cdv)) (envOfC d_l_fault.qual d_l_fault.scope s.heap.objs.size (He.fAd K d_l_fault.at_) cdv) (cxOf (L2.CX P w) P w K mg base nm_l_fault d_l_fault.qual d_l_fault.scope (He.fAd K d_l_fault.at_) cdv A outer s H E).xe := passes_of rfl
  exact ss_cons (ss_if (st_cmpR op_gt vop_cmp (se_call (U .l_nodes) hr tk (by rfl) T.f_l_nodes (sa_cons (se_var 0) (sa_nil))) (se_int) (nomark _)) (ss_one (ss_ret (se_tup (sa_cons (se_str [108, 97, 114, 103, 101]) (sa_cons (se_str []) (sa_nil)))))) (ss_nil)) <|
    ss_cons (ss_set sc_l_fault.nd (i := 1) (se_call (U .l_events) hr tk (by rfl) T.f_l_events (sa_cons (se_var 0) (sa_nil)))) <|
    ss_cons (ss_for po rfl (si_rng1 (by rfl) T.z_range (sa_cons (se_callB call_lenM vc_len (by rfl) T.z_len (sa_cons (se_var 1) (sa_nil))) (sa_nil))) (sg_nm sc_l_fault.nd) (ss_cons (ss_set sc_l_fault.nd (i := 3) (se_ix (hu_of hr) (se_ix (hu_of hr) (se_var 1) (se_var 2)) (se_int))) <|
    ss_cons (ss_set sc_l_fault.nd (i := 4) (se_ix (hu_of hr) (se_ix (hu_of hr) (se_var 1) (se_var 2)) (se_int))) <|
    ss_cons (ss_if (st_w (sw_and (st_cmpR (op_neD hr.units) vop_ne (se_var 3) (se_str [101, 110, 100]) (nomark _)) (sw_and1 (st_not (st_truth (se_call (U .l_named) hr tk (by rfl) T.f_l_named (sa_cons (se_var 4) (sa_nil)))))))) (ss_one (ss_ret (se_tup (sa_cons (se_str [98, 97, 100]) (sa_cons (se_var 4) (sa_nil)))))) (ss_nil)) <|
    ss_cons (ss_if (st_w (sw_and (st_cmpR (op_eqD hr.units) vop_eq (se_var 3) (se_str [117, 115, 101]) (nomark _)) (sw_and1 (st_cmpR (op_inA (hu65 hr)) vop_in (se_tup (sa_cons (se_str [117, 115, 101]) (sa_cons (se_var 4) (sa_nil)))) (se_slice (se_var 1) (so_none) (so_some (se_var 2))) (by rfl))))) (ss_one (ss_ret (se_tup (sa_cons (se_str [114, 101, 112, 101, 97, 116, 101, 100]) (sa_cons (se_var 4) (sa_nil)))))) (ss_nil)) <|
    ss_cons (ss_if (st_w (sw_and (st_cmpR (op_eqD hr.units) vop_eq (se_var 3) (se_str [98, 105, 110, 100]) (nomark _)) (sw_and1 (st_w (sw_or (st_cmpR (op_inA (hu65 hr)) vop_in (se_tup (sa_cons (se_str [117, 115, 101]) (sa_cons (se_var 4) (sa_nil)))) (se_slice (se_var 1) (so_none) (so_some (se_var 2))) (by rfl)) (sw_or1 (st_cmpR (op_inA (hu65 hr)) vop_in (se_tup (sa_cons (se_str [98, 105, 110, 100]) (sa_cons (se_var 4) (sa_nil)))) (se_slice (se_var 1) (so_none) (so_some (se_var 2))) (by rfl)))))))) (ss_one (ss_ret (se_tup (sa_cons (se_str [114, 101, 112, 101, 97, 116, 101, 100]) (sa_cons (se_var 4) (sa_nil)))))) (ss_nil)) <|
    ss_one (ss_if (st_w (sw_and (st_cmpR (op_eqD hr.units) vop_eq (se_var 3) (se_str [101, 110, 100]) (nomark _)) (sw_and1 (st_cmpR (op_ninA (hu65 hr)) vop_nin (se_tup (sa_cons (se_str [117, 115, 101]) (sa_cons (se_var 4) (sa_nil)))) (se_slice (se_var 1) (so_some (se_index (hu65 hr) (se_var 1) (sa_cons (se_tup (sa_cons (se_str [98, 105, 110, 100]) (sa_cons (se_var 4) (sa_nil)))) (sa_nil)))) (so_some (se_var 2))) (by rfl))))) (ss_one (ss_ret (se_tup (sa_cons (se_str [117, 110, 117, 115, 101, 100]) (sa_cons (se_var 4) (sa_nil)))))) (ss_nil)))) <|
    ss_one (ss_ret (se_tup (sa_cons (se_str [110, 111, 110, 101]) (sa_cons (se_str []) (sa_nil)))))
set_option maxHeartbeats 4000000 in
theorem ok_l_due (g : Nat) (T : Top P K mg) (U : ∀ f : FN, FnA P w K mg base g n f) : FnA P w K mg base g (n + 1) .l_due := by
  obtain ⟨fd, hF⟩ := T.t_l_due
  refine fn_succ (d := d_l_due) (N := nm_l_due) (ps := ps_l_due) (b := Run.b_l_due (Run.callF g n) g) hF (bn_l_due hF) sc_l_due (by decide) (fun cdv A outer s H E hr => ?_) (fun _ _ => rfl)
  have tk : Takes (cxOf (L2.CX P w) P w K mg base nm_l_due d_l_due.qual d_l_due.scope (He.fAd K d_l_due.at_) cdv A outer s H E) (fun c dd _ H' => E c dd H') := takes_of rfl rfl rfl rfl
  have po : PassesOwn (model P w) (A.deeper (envOfC d_l_due.qual d_l_due.scope s.heap.objs.size (He.fAd K d_l_due.at_) cdv)) (envOfC d_l_due.qual d_l_due.scope s.heap.objs.size (He.fAd K d_l_due.at_) cdv) (cxOf (L2.CX P w) P w K mg base nm_l_due d_l_due.qual d_l_due.scope (He.fAd K d_l_due.at_) cdv A outer s H E).xe := passes_of rfl
  exact ss_cons (ss_set sc_l_due.nd (i := 1) (se_call (U .l_fault) hr tk (by rfl) T.f_l_fault (sa_cons (se_var 0) (sa_nil)))) <|
    ss_cons (ss_if (st_cmpR (op_eqD hr.units) vop_eq (se_ix (hu_of hr) (se_var 1) (se_int)) (se_str [110, 111, 110, 101]) (nomark _)) (ss_one (ss_ret (se_tup (sa_cons (se_str [116, 111, 108, 100]) (sa_cons (se_call (U .l_nodes) hr tk (by rfl) T.f_l_nodes (sa_cons (se_var 0) (sa_nil))) (sa_nil)))))) (ss_nil)) <|
    ss_cons (ss_set sc_l_due.nd (i := 2) (se_lst (sa_cons (se_cmpR (op_eqD hr.units) vop_eq (se_ix (hu_of hr) (se_var 1) (se_int)) (se_str [98, 97, 100]) (nomark _)) (sa_cons (se_cmpR (op_eqD hr.units) vop_eq (se_ix (hu_of hr) (se_var 1) (se_int)) (se_str [114, 101, 112, 101, 97, 116, 101, 100]) (nomark _)) (sa_cons (se_cmpR (op_eqD hr.units) vop_eq (se_ix (hu_of hr) (se_var 1) (se_int)) (se_str [117, 110, 117, 115, 101, 100]) (nomark _)) (sa_cons (se_bl) (sa_nil))))))) <|
    ss_one (ss_ret (se_tup (sa_cons (se_str [114, 101, 102, 117, 115, 101, 100]) (sa_cons (se_bin op_addM vop_add (se_var 2) (se_lst (sa_cons (se_cmpR (op_neD hr.units) vop_ne (se_ix (hu_of hr) (se_var 1) (se_int)) (se_str [108, 97, 114, 103, 101]) (nomark _)) (sa_cons (se_cmpR (op_eqD hr.units) vop_eq (se_ix (hu_of hr) (se_var 1) (se_int)) (se_str [108, 97, 114, 103, 101]) (nomark _)) (sa_cons (se_bl) (sa_nil)))))) (sa_cons (se_ix (hu_of hr) (se_var 1) (se_int)) (sa_nil))))))
set_option maxHeartbeats 4000000 in
theorem ok_l_told (g : Nat) (T : Top P K mg) (U : ∀ f : FN, FnA P w K mg base g n f) : FnA P w K mg base g (n + 1) .l_told := by
  obtain ⟨fd, hF⟩ := T.t_l_told
  refine fn_succ (d := d_l_told) (N := nm_l_told) (ps := ps_l_told) (b := Run.b_l_told (Run.callF g n) g) hF (bn_l_told hF) sc_l_told (by decide) (fun cdv A outer s H E hr => ?_) (fun _ _ => rfl)
  have tk : Takes (cxOf (L2.CX P w) P w K mg base nm_l_told d_l_told.qual d_l_told.scope (He.fAd K d_l_told.at_) cdv A outer s H E) (fun c dd _ H' => E c dd H') := takes_of rfl rfl rfl rfl
  have po : PassesOwn (model P w) (A.deeper (envOfC d_l_told.qual d_l_told.scope s.heap.objs.size (He.fAd K d_l_told.at_) cdv)) (envOfC d_l_told.qual d_l_told.scope s.heap.objs.size (He.fAd K d_l_told.at_) cdv) (cxOf (L2.CX P w) P w K mg base nm_l_told d_l_told.qual d_l_told.scope (He.fAd K d_l_told.at_) cdv A outer s H E).xe := passes_of rfl
  exact ss_one (ss_tryAs (T := xt) (i := 1) rfl T.xok rfl rfl sc_l_told.nd rfl rfl (by rfl) T.k_DrawnonceError tk (fun W pn xe tk po => ss_one (ss_ret (se_tup (sa_cons (se_str [116, 111, 108, 100]) (sa_cons (se_call (U .check_term) hr tk (by rfl) T.f_check_term (sa_cons (se_var 0) (sa_nil))) (sa_nil)))))) (fun a_ oe_ cls_ d_ pn_ hz_ hf_ => ss_cons (ss_set sc_l_told.nd (i := 2) (se_lst (sa_cons (se_isX (T := xt) (i := 1) T.xok (by rfl) T.z_isinstance (by rfl) T.k_BadName) (sa_cons (se_isX (T := xt) (i := 1) T.xok (by rfl) T.z_isinstance (by rfl) T.k_Repeated) (sa_cons (se_isX (T := xt) (i := 1) T.xok (by rfl) T.z_isinstance (by rfl) T.k_Unused) (sa_cons (se_isX (T := xt) (i := 1) T.xok (by rfl) T.z_isinstance (by rfl) T.k_UnknownName) (sa_nil))))))) <|
    ss_cons (ss_set sc_l_told.nd (i := 2) (se_bin op_addM vop_add (se_var 2) (se_lst (sa_cons (se_isX (T := xt) (i := 1) T.xok (by rfl) T.z_isinstance (by rfl) T.k_NameFault) (sa_cons (se_isX (T := xt) (i := 1) T.xok (by rfl) T.z_isinstance (by rfl) T.k_TooLarge) (sa_cons (se_isXB (T := xt) (i := 1) (ty := "ValueError") T.xok (by rfl) T.z_isinstance (by rfl) T.z_ValueError (by decide +kernel)) (sa_nil))))))) <|
    ss_cons (ss_if (st_truth (se_isX (T := xt) (i := 1) T.xok (by rfl) T.z_isinstance (by rfl) T.k_NameFault)) (ss_one (ss_ret (se_tup (sa_cons (se_str [114, 101, 102, 117, 115, 101, 100]) (sa_cons (se_var 2) (sa_cons (se_xf (T := xt) (i := 1) hz_ hf_ T.xok) (sa_nil))))))) (ss_nil)) <|
    ss_one (ss_ret (se_tup (sa_cons (se_str [114, 101, 102, 117, 115, 101, 100]) (sa_cons (se_var 2) (sa_cons (se_str []) (sa_nil))))))))
set_option maxHeartbeats 4000000 in
theorem ok_f_law (g : Nat) (T : Top P K mg) (U : ∀ f : FN, FnA P w K mg base g n f) : FnA P w K mg base g (n + 1) .f_law := by
  obtain ⟨fd, hF⟩ := T.t_f_law
  refine fn_succ (d := d_f_law) (N := nm_f_law) (ps := ps_f_law) (b := Run.b_f_law (Run.callF g n) g) hF (bn_f_law hF) sc_f_law (by decide) (fun cdv A outer s H E hr => ?_) (fun _ _ => rfl)
  have tk : Takes (cxOf (L2.CX P w) P w K mg base nm_f_law d_f_law.qual d_f_law.scope (He.fAd K d_f_law.at_) cdv A outer s H E) (fun c dd _ H' => E c dd H') := takes_of rfl rfl rfl rfl
  have po : PassesOwn (model P w) (A.deeper (envOfC d_f_law.qual d_f_law.scope s.heap.objs.size (He.fAd K d_f_law.at_) cdv)) (envOfC d_f_law.qual d_f_law.scope s.heap.objs.size (He.fAd K d_f_law.at_) cdv) (cxOf (L2.CX P w) P w K mg base nm_f_law d_f_law.qual d_f_law.scope (He.fAd K d_f_law.at_) cdv A outer s H E).xe := passes_of rfl
  exact ss_cons (ss_set sc_f_law.nd (i := 1) (se_call (U .l_built) hr tk (by rfl) T.f_l_built (sa_cons (se_var 0) (sa_nil)))) <|
    ss_cons (ss_set sc_f_law.nd (i := 2) (se_call (U .l_changed) hr tk (by rfl) T.f_l_changed (sa_cons (se_call (U .l_strings) hr tk (by rfl) T.f_l_strings (sa_cons (se_var 1) (sa_nil))) (sa_cons (se_call (U .l_digits) hr tk (by rfl) T.f_l_digits (sa_cons (se_call (U .l_cell) hr tk (by rfl) T.f_l_cell (sa_cons (se_var 0) (sa_cons (se_int) (sa_nil)))) (sa_cons (se_int) (sa_cons (se_int) (sa_nil))))) (sa_nil))))) <|
    ss_cons (ss_set sc_f_law.nd (i := 3) (se_call (U .l_dressed) hr tk (by rfl) T.f_l_dressed (sa_cons (se_var 1) (sa_cons (se_callT call_list_of vc_list (by rfl) T.z_list (sa_cons (se_var 2) (sa_nil))) (sa_nil))))) <|
    ss_cons (ss_for po rfl (si_seq (se_lst (sa_cons (se_var 1) (sa_cons (se_var 3) (sa_cons (se_var 1) (sa_nil)))))) (sg_nm sc_f_law.nd) (ss_one (ss_if (st_not (st_truth (se_call (U .l_same) hr tk (by rfl) T.f_l_same (sa_cons (se_call (U .l_told) hr tk (by rfl) T.f_l_told (sa_cons (se_var 4) (sa_nil))) (sa_cons (se_call (U .l_due) hr tk (by rfl) T.f_l_due (sa_cons (se_var 4) (sa_nil))) (sa_nil)))))) (ss_one (ss_ret (se_bl))) (ss_nil)))) <|
    ss_one (ss_ret (se_bl))
theorem all_ok (g : Nat) (T : Top P K mg) : ∀ (n : Nat) (f : FN), FnA P w K mg base g n f
  | 0, .is_name => let ⟨_, hF⟩ := T.t_is_name; fn_zero (d := d_is_name) hF (bn_is_name hF) fun _ _ => rfl
  | 0, .below => let ⟨_, hF⟩ := T.t_below; fn_zero (d := d_below) hF (bn_below hF) fun _ _ => rfl
  | 0, .parts => let ⟨_, hF⟩ := T.t_parts; fn_zero (d := d_parts) hF (bn_parts hF) fun _ _ => rfl
  | 0, .size => let ⟨_, hF⟩ := T.t_size; fn_zero (d := d_size) hF (bn_size hF) fun _ _ => rfl
  | 0, .check_part => let ⟨_, hF⟩ := T.t_check_part; fn_zero (d := d_check_part) hF (bn_check_part hF) fun _ _ => rfl
  | 0, .check_term => let ⟨_, hF⟩ := T.t_check_term; fn_zero (d := d_check_term) hF (bn_check_term hF) fun _ _ => rfl
  | 0, .l_cell => let ⟨_, hF⟩ := T.t_l_cell; fn_zero (d := d_l_cell) hF (bn_l_cell hF) fun _ _ => rfl
  | 0, .l_at => let ⟨_, hF⟩ := T.t_l_at; fn_zero (d := d_l_at) hF (bn_l_at hF) fun _ _ => rfl
  | 0, .l_same => let ⟨_, hF⟩ := T.t_l_same; fn_zero (d := d_l_same) hF (bn_l_same hF) fun _ _ => rfl
  | 0, .l_digits => let ⟨_, hF⟩ := T.t_l_digits; fn_zero (d := d_l_digits) hF (bn_l_digits hF) fun _ _ => rfl
  | 0, .l_name => let ⟨_, hF⟩ := T.t_l_name; fn_zero (d := d_l_name) hF (bn_l_name hF) fun _ _ => rfl
  | 0, .l_term => let ⟨_, hF⟩ := T.t_l_term; fn_zero (d := d_l_term) hF (bn_l_term hF) fun _ _ => rfl
  | 0, .l_nest => let ⟨_, hF⟩ := T.t_l_nest; fn_zero (d := d_l_nest) hF (bn_l_nest hF) fun _ _ => rfl
  | 0, .l_chain => let ⟨_, hF⟩ := T.t_l_chain; fn_zero (d := d_l_chain) hF (bn_l_chain hF) fun _ _ => rfl
  | 0, .l_bushy => let ⟨_, hF⟩ := T.t_l_bushy; fn_zero (d := d_l_bushy) hF (bn_l_bushy hF) fun _ _ => rfl
  | 0, .l_built => let ⟨_, hF⟩ := T.t_l_built; fn_zero (d := d_l_built) hF (bn_l_built hF) fun _ _ => rfl
  | 0, .l_strings => let ⟨_, hF⟩ := T.t_l_strings; fn_zero (d := d_l_strings) hF (bn_l_strings hF) fun _ _ => rfl
  | 0, .l_dressed => let ⟨_, hF⟩ := T.t_l_dressed; fn_zero (d := d_l_dressed) hF (bn_l_dressed hF) fun _ _ => rfl
  | 0, .l_changed => let ⟨_, hF⟩ := T.t_l_changed; fn_zero (d := d_l_changed) hF (bn_l_changed hF) fun _ _ => rfl
  | 0, .l_named => let ⟨_, hF⟩ := T.t_l_named; fn_zero (d := d_l_named) hF (bn_l_named hF) fun _ _ => rfl
  | 0, .l_events => let ⟨_, hF⟩ := T.t_l_events; fn_zero (d := d_l_events) hF (bn_l_events hF) fun _ _ => rfl
  | 0, .l_nodes => let ⟨_, hF⟩ := T.t_l_nodes; fn_zero (d := d_l_nodes) hF (bn_l_nodes hF) fun _ _ => rfl
  | 0, .l_fault => let ⟨_, hF⟩ := T.t_l_fault; fn_zero (d := d_l_fault) hF (bn_l_fault hF) fun _ _ => rfl
  | 0, .l_due => let ⟨_, hF⟩ := T.t_l_due; fn_zero (d := d_l_due) hF (bn_l_due hF) fun _ _ => rfl
  | 0, .l_told => let ⟨_, hF⟩ := T.t_l_told; fn_zero (d := d_l_told) hF (bn_l_told hF) fun _ _ => rfl
  | 0, .f_law => let ⟨_, hF⟩ := T.t_f_law; fn_zero (d := d_f_law) hF (bn_f_law hF) fun _ _ => rfl
  | n + 1, .is_name => ok_is_name g T fun f => all_ok g T n f
  | n + 1, .below => ok_below g T fun f => all_ok g T n f
  | n + 1, .parts => ok_parts g T fun f => all_ok g T n f
  | n + 1, .size => ok_size g T fun f => all_ok g T n f
  | n + 1, .check_part => ok_check_part g T fun f => all_ok g T n f
  | n + 1, .check_term => ok_check_term g T fun f => all_ok g T n f
  | n + 1, .l_cell => ok_l_cell g T fun f => all_ok g T n f
  | n + 1, .l_at => ok_l_at g T fun f => all_ok g T n f
  | n + 1, .l_same => ok_l_same g T fun f => all_ok g T n f
  | n + 1, .l_digits => ok_l_digits g T fun f => all_ok g T n f
  | n + 1, .l_name => ok_l_name g T fun f => all_ok g T n f
  | n + 1, .l_term => ok_l_term g T fun f => all_ok g T n f
  | n + 1, .l_nest => ok_l_nest g T fun f => all_ok g T n f
  | n + 1, .l_chain => ok_l_chain g T fun f => all_ok g T n f
  | n + 1, .l_bushy => ok_l_bushy g T fun f => all_ok g T n f
  | n + 1, .l_built => ok_l_built g T fun f => all_ok g T n f
  | n + 1, .l_strings => ok_l_strings g T fun f => all_ok g T n f
  | n + 1, .l_dressed => ok_l_dressed g T fun f => all_ok g T n f
  | n + 1, .l_changed => ok_l_changed g T fun f => all_ok g T n f
  | n + 1, .l_named => ok_l_named g T fun f => all_ok g T n f
  | n + 1, .l_events => ok_l_events g T fun f => all_ok g T n f
  | n + 1, .l_nodes => ok_l_nodes g T fun f => all_ok g T n f
  | n + 1, .l_fault => ok_l_fault g T fun f => all_ok g T n f
  | n + 1, .l_due => ok_l_due g T fun f => all_ok g T n f
  | n + 1, .l_told => ok_l_told g T fun f => all_ok g T n f
  | n + 1, .f_law => ok_f_law g T fun f => all_ok g T n f
end
/-! ### the head -/
def fnL : List He.DefD := ([d_is_name, d_below, d_parts, d_size, d_check_part, d_check_term, d_l_cell, d_l_at, d_l_same, d_l_digits, d_l_name, d_l_term, d_l_nest, d_l_chain, d_l_bushy, d_l_built, d_l_strings, d_l_dressed, d_l_changed, d_l_named] : List He.DefD) ++ ([d_l_events, d_l_nodes, d_l_fault, d_l_due, d_l_told, d_f_law] : List He.DefD)
abbrev RR : PySem.W.OpenRow := PySem.W.OpenLaw.row PySem.Challenge.rw_drawnonce_k01_first_fault_of_a_term
def su_BadName : He.FnX := some (("__init__" : Str), ("NameFault.__init__" : Str), PySem.Supname.iA ⟨6, 17, 6, 21⟩ ⟨6, 23, 6, 27⟩, FuncBody.stmts (PySem.Supname.iB "a name breaks a rule" 0 ⟨7, 8, 7, 13⟩ ⟨7, 8, 7, 15⟩ ⟨7, 8, 7, 24⟩ ⟨7, 25, 7, 47⟩ ⟨7, 8, 7, 48⟩ ⟨7, 8, 7, 48⟩ ⟨8, 8, 8, 12⟩ ⟨8, 8, 8, 17⟩ ⟨8, 20, 8, 24⟩ ⟨8, 8, 8, 24⟩), PySem.Supname.iS, mainGlobals, [("__class__" : Str)], builtinsNs)
def su_Repeated : He.FnX := some (("__init__" : Str), ("NameFault.__init__" : Str), PySem.Supname.iA ⟨6, 17, 6, 21⟩ ⟨6, 23, 6, 27⟩, FuncBody.stmts (PySem.Supname.iB "a name breaks a rule" 0 ⟨7, 8, 7, 13⟩ ⟨7, 8, 7, 15⟩ ⟨7, 8, 7, 24⟩ ⟨7, 25, 7, 47⟩ ⟨7, 8, 7, 48⟩ ⟨7, 8, 7, 48⟩ ⟨8, 8, 8, 12⟩ ⟨8, 8, 8, 17⟩ ⟨8, 20, 8, 24⟩ ⟨8, 8, 8, 24⟩), PySem.Supname.iS, mainGlobals, [("__class__" : Str)], builtinsNs)
def su_Unused : He.FnX := some (("__init__" : Str), ("NameFault.__init__" : Str), PySem.Supname.iA ⟨6, 17, 6, 21⟩ ⟨6, 23, 6, 27⟩, FuncBody.stmts (PySem.Supname.iB "a name breaks a rule" 0 ⟨7, 8, 7, 13⟩ ⟨7, 8, 7, 15⟩ ⟨7, 8, 7, 24⟩ ⟨7, 25, 7, 47⟩ ⟨7, 8, 7, 48⟩ ⟨7, 8, 7, 48⟩ ⟨8, 8, 8, 12⟩ ⟨8, 8, 8, 17⟩ ⟨8, 20, 8, 24⟩ ⟨8, 8, 8, 24⟩), PySem.Supname.iS, mainGlobals, [("__class__" : Str)], builtinsNs)
def hxL : He.HxD := ⟨5, ([.glo "is_name", .glo "below", .glo "parts", .glo "size", .glo "check_part", .glo "check_term", .glo "_law_cell", .glo "_law_at", .glo "_law_same", .glo "_law_digits", .glo "_law_name", .glo "_law_term", .glo "_law_nest", .glo "_law_chain", .glo "_law_bushy", .glo "_law_built", .glo "_law_strings", .glo "_law_dressed", .glo "_law_changed", .glo "_law_named"] : List He.Fa) ++ ([.glo "_law_events", .glo "_law_nodes", .glo "_law_fault", .glo "_law_due", .glo "_law_told", .glo "law", .free "ValueError", .free "abs", .free "bool", .free "int", .free "isinstance", .free "len", .free "list", .free "range", .free "str", .free "super", .free "tuple", .str "DIGITS" "0123456789", .str "LETTERS" "abcdefghijklmnopqrstuvwxyz", .int "LONGEST" (8)] : List He.Fa) ++ ([.int "MOST_NODES" (60), .glo "DrawnonceError", .glo "NameFault", .glo "BadName", .glo "Repeated", .glo "Unused", .glo "UnknownName", .glo "TooLarge", .exc "TooLarge"] : List He.Fa), fnL, [xt.okB, He.supB RR.prog.main.file "BadName" "name", He.supB RR.prog.main.file "Repeated" "name", He.supB RR.prog.main.file "Unused" "name"], [("BadName", su_BadName), ("Repeated", su_Repeated), ("Unused", su_Unused)]⟩
abbrev hkL : PySem.W.Hook := hxL.hook
def obL (s : PySem.W.SharedT) : He.AlX := hxL.obsG (HandSHeadRun.getT s)
theorem obL_eq (s : PySem.W.SharedT) : obL s = hkL.obs s.abs := He.HxD.obsG_eq (HandSHeadRun.getT_eq s)
def looseL : List Str := (["DrawnonceError", "NameFault", "BadName", "Repeated", "Unused", "UnknownName", "TooLarge", "LETTERS", "DIGITS", "LONGEST", "is_name", "MOST_NODES", "below", "parts", "size", "check_part", "check_term", "_law_cell", "_law_at", "_law_same"] : List Str) ++ (["_law_digits", "_law_name", "_law_term", "_law_nest", "_law_chain", "_law_bushy", "_law_built", "_law_strings", "_law_dressed", "_law_changed", "_law_named", "_law_events", "_law_nodes", "_law_fault", "_law_due", "_law_told"] : List Str)
theorem runL (w : World) : HandSHeadRun.RunEq RR (PySem.W.view RR.prog [40]) hkL obL 6000 looseL w := by
  intro os
  kernel_rfl
theorem top_of {K : PySem.W.Frag} {h : Heap} {mg : Str → Option Value} (X : K.In h) (G : h.Ns mainGlobals mg) (c : hxL.Says K) : Top RR.prog K mg where
  z_ValueError := He.free_ok X G (c.fact 26 (f := .free "ValueError") rfl)
  z_abs := He.free_ok X G (c.fact 27 (f := .free "abs") rfl)
  z_bool := He.free_ok X G (c.fact 28 (f := .free "bool") rfl)
  z_int := He.free_ok X G (c.fact 29 (f := .free "int") rfl)
  z_isinstance := He.free_ok X G (c.fact 30 (f := .free "isinstance") rfl)
  z_len := He.free_ok X G (c.fact 31 (f := .free "len") rfl)
  z_list := He.free_ok X G (c.fact 32 (f := .free "list") rfl)
  z_range := He.free_ok X G (c.fact 33 (f := .free "range") rfl)
  z_str := He.free_ok X G (c.fact 34 (f := .free "str") rfl)
  z_super := He.free_ok X G (c.fact 35 (f := .free "super") rfl)
  z_tuple := He.free_ok X G (c.fact 36 (f := .free "tuple") rfl)
  g_DIGITS := He.str_ok X G (c.fact 37 (f := .str "DIGITS" "0123456789") rfl)
  g_LETTERS := He.str_ok X G (c.fact 38 (f := .str "LETTERS" "abcdefghijklmnopqrstuvwxyz") rfl)
  g_LONGEST := He.int_ok X G (c.fact 39 (f := .int "LONGEST" (8)) rfl)
  g_MOST_NODES := He.int_ok X G (c.fact 40 (f := .int "MOST_NODES" (60)) rfl)
  k_DrawnonceError := He.glo_ok X G (c.fact 41 (f := .glo "DrawnonceError") rfl)
  k_NameFault := He.glo_ok X G (c.fact 42 (f := .glo "NameFault") rfl)
  k_BadName := He.glo_ok X G (c.fact 43 (f := .glo "BadName") rfl)
  k_Repeated := He.glo_ok X G (c.fact 44 (f := .glo "Repeated") rfl)
  k_Unused := He.glo_ok X G (c.fact 45 (f := .glo "Unused") rfl)
  k_UnknownName := He.glo_ok X G (c.fact 46 (f := .glo "UnknownName") rfl)
  k_TooLarge := He.glo_ok X G (c.fact 47 (f := .glo "TooLarge") rfl)
  s_BadName := PySem.Supname.of (c.sup 0 (x := "BadName") (v := su_BadName) rfl) (c.bool 1 (b := He.supB RR.prog.main.file "BadName" "name") rfl) (by decide +kernel) (fun env => ⟨_, rfl⟩)
  s_Repeated := PySem.Supname.of (c.sup 1 (x := "Repeated") (v := su_Repeated) rfl) (c.bool 2 (b := He.supB RR.prog.main.file "Repeated" "name") rfl) (by decide +kernel) (fun env => ⟨_, rfl⟩)
  s_Unused := PySem.Supname.of (c.sup 2 (x := "Unused") (v := su_Unused) rfl) (c.bool 3 (b := He.supB RR.prog.main.file "Unused" "name") rfl) (by decide +kernel) (fun env => ⟨_, rfl⟩)
  e_TooLarge := c.fact 48 (f := .exc "TooLarge") rfl
  xok := XT.ok (c.bool 0 (b := xt.okB) rfl)
  f_is_name := He.glo_ok X G (c.fact 0 (f := .glo "is_name") rfl)
  t_is_name := c.def_ 0 (e := d_is_name) rfl
  f_below := He.glo_ok X G (c.fact 1 (f := .glo "below") rfl)
  t_below := c.def_ 1 (e := d_below) rfl
  f_parts := He.glo_ok X G (c.fact 2 (f := .glo "parts") rfl)
  t_parts := c.def_ 2 (e := d_parts) rfl
  f_size := He.glo_ok X G (c.fact 3 (f := .glo "size") rfl)
  t_size := c.def_ 3 (e := d_size) rfl
  f_check_part := He.glo_ok X G (c.fact 4 (f := .glo "check_part") rfl)
  t_check_part := c.def_ 4 (e := d_check_part) rfl
  f_check_term := He.glo_ok X G (c.fact 5 (f := .glo "check_term") rfl)
  t_check_term := c.def_ 5 (e := d_check_term) rfl
  f_l_cell := He.glo_ok X G (c.fact 6 (f := .glo "_law_cell") rfl)
  t_l_cell := c.def_ 6 (e := d_l_cell) rfl
  f_l_at := He.glo_ok X G (c.fact 7 (f := .glo "_law_at") rfl)
  t_l_at := c.def_ 7 (e := d_l_at) rfl
  f_l_same := He.glo_ok X G (c.fact 8 (f := .glo "_law_same") rfl)
  t_l_same := c.def_ 8 (e := d_l_same) rfl
  f_l_digits := He.glo_ok X G (c.fact 9 (f := .glo "_law_digits") rfl)
  t_l_digits := c.def_ 9 (e := d_l_digits) rfl
  f_l_name := He.glo_ok X G (c.fact 10 (f := .glo "_law_name") rfl)
  t_l_name := c.def_ 10 (e := d_l_name) rfl
  f_l_term := He.glo_ok X G (c.fact 11 (f := .glo "_law_term") rfl)
  t_l_term := c.def_ 11 (e := d_l_term) rfl
  f_l_nest := He.glo_ok X G (c.fact 12 (f := .glo "_law_nest") rfl)
  t_l_nest := c.def_ 12 (e := d_l_nest) rfl
  f_l_chain := He.glo_ok X G (c.fact 13 (f := .glo "_law_chain") rfl)
  t_l_chain := c.def_ 13 (e := d_l_chain) rfl
  f_l_bushy := He.glo_ok X G (c.fact 14 (f := .glo "_law_bushy") rfl)
  t_l_bushy := c.def_ 14 (e := d_l_bushy) rfl
  f_l_built := He.glo_ok X G (c.fact 15 (f := .glo "_law_built") rfl)
  t_l_built := c.def_ 15 (e := d_l_built) rfl
  f_l_strings := He.glo_ok X G (c.fact 16 (f := .glo "_law_strings") rfl)
  t_l_strings := c.def_ 16 (e := d_l_strings) rfl
  f_l_dressed := He.glo_ok X G (c.fact 17 (f := .glo "_law_dressed") rfl)
  t_l_dressed := c.def_ 17 (e := d_l_dressed) rfl
  f_l_changed := He.glo_ok X G (c.fact 18 (f := .glo "_law_changed") rfl)
  t_l_changed := c.def_ 18 (e := d_l_changed) rfl
  f_l_named := He.glo_ok X G (c.fact 19 (f := .glo "_law_named") rfl)
  t_l_named := c.def_ 19 (e := d_l_named) rfl
  f_l_events := He.glo_ok X G (c.fact 20 (f := .glo "_law_events") rfl)
  t_l_events := c.def_ 20 (e := d_l_events) rfl
  f_l_nodes := He.glo_ok X G (c.fact 21 (f := .glo "_law_nodes") rfl)
  t_l_nodes := c.def_ 21 (e := d_l_nodes) rfl
  f_l_fault := He.glo_ok X G (c.fact 22 (f := .glo "_law_fault") rfl)
  t_l_fault := c.def_ 22 (e := d_l_fault) rfl
  f_l_due := He.glo_ok X G (c.fact 23 (f := .glo "_law_due") rfl)
  t_l_due := c.def_ 23 (e := d_l_due) rfl
  f_l_told := He.glo_ok X G (c.fact 24 (f := .glo "_law_told") rfl)
  t_l_told := c.def_ 24 (e := d_l_told) rfl
  f_f_law := He.glo_ok X G (c.fact 25 (f := .glo "law") rfl)
  t_f_law := c.def_ 25 (e := d_f_law) rfl

section
open Run
variable {g n : Nat} {h : Hst}
theorem cell_ok (hn : 0 < n) (xs : List Int) (k : Int) (hk : 0 ≤ k) : callF g n .l_cell [.sl (xs.map .int), .int k] h = .ok (.int (atZ xs k)) h := by
  obtain ⟨n, rfl⟩ : ∃ m, n = m + 1 := ⟨n - 1, by omega⟩
  exact run_cellI xs k hk h
theorem at_ok (hn : 0 < n) (xs : List Int) (k : Int) (hk : 0 ≤ k) {a : Nat} (e : h[a]? = some (.lst (xs.map .int))) : callF g n .l_at [.ref a, .int k] h = .ok (.int (atZ xs k)) h := by
  obtain ⟨n, rfl⟩ : ∃ m, n = m + 1 := ⟨n - 1, by omega⟩
  exact run_atI xs k hk a h e
theorem digits_ok (g : Nat) (h : Hst) (hn : 0 < n) (c salt : Int) (many : Nat) (hm : many ≤ 1000000) : ∃ ds : List Int, ds.length ≤ many ∧ (∀ d ∈ ds, 0 ≤ d ∧ d < 60) ∧ callF g n .l_digits [.int c, .int many, .int salt] h = .ok (.ref h.length) (h ++ [.lst (ds.map .int)]) := by
  obtain ⟨n, rfl⟩ : ∃ m, n = m + 1 := ⟨n - 1, by omega⟩
  exact run_digits 60 (by decide) (by decide) c salt many hm h
theorem below_ok (hn : 0 < n) (t : Tm) (h : Hst) : callF g n .below [t.d] h = .ok (.ref h.length) (h ++ [.lst (t.kids.map Tm.d)]) := by
  obtain ⟨n, rfl⟩ : ∃ m, n = m + 1 := ⟨n - 1, by omega⟩
  exact below_run t h
theorem parts_ok (hn : 1 < n) (t : Tm) (hg : t.sub.length < g) (hl : t.sub.length ≤ 1000000) (h : Hst) : callF g n .parts [t.d] h = .ok (.ref h.length) (h ++ [.lst (t.sub.map Tm.d)]) := by
  obtain ⟨n, rfl⟩ : ∃ m, n = m + 1 := ⟨n - 1, by omega⟩
  exact parts_run (callF g n .below) (fun t h => below_ok (by omega) t h) g t hg hl h
theorem size_ok (hn : 2 < n) (t : Tm) (hg : t.sub.length < g) (hl : t.sub.length ≤ 4000) (h : Hst) : callF g n .size [t.d] h = .ok (.int t.nodes) h := by
  obtain ⟨n, rfl⟩ : ∃ m, n = m + 1 := ⟨n - 1, by omega⟩
  exact size_run (callF g n .parts) t h (parts_ok (by omega) t hg (by omega) h) hl
theorem nodes_ok (t : Tm) (n : Nat) (hn : t.high ≤ n) : ∀ h, callF g n .l_nodes [t.d] h = .ok (.int t.nodes) h :=
  tm_rec (P := fun t n => ∀ h, callF g n .l_nodes [t.d] h = .ok (.int t.nodes) h) (fun t n hc h => nodes_run (callF g n .l_nodes) t h fun k hk => hc k hk h) t n hn
theorem same_ok : ∀ (m n : Nat) {x y : D}, m ≤ n → Lk h m x y → callF g n .l_same [x, y] h = .ok (.bl true) h
  | 0, _, x, y, _, k => k.elim
  | m + 1, n + 1, x, y, hn, k => same_run (callF g n .l_same) (fun dx dy q => same_ok m n (by omega) q) k
  | m + 1, 0, x, y, hn, _ => absurd hn (by omega)
theorem isname_ok (hn : 0 < n) (s : List Nat) (h : Hst) : callF g n .is_name [.str s] h = .ok (.bl (nmB s)) h := by
  obtain ⟨n, rfl⟩ : ∃ m, n = m + 1 := ⟨n - 1, by omega⟩
  exact isname_run s h
theorem named_ok (hn : 0 < n) (s : List Nat) (h : Hst) : callF g n .l_named [.str s] h = .ok (.bl (nmB s)) h := by
  obtain ⟨n, rfl⟩ : ∃ m, n = m + 1 := ⟨n - 1, by omega⟩
  exact named_run s h
theorem cpart_ok (a : Nat) (t : Tm) (n : Nat) (hn : t.high < n) (pre : List (List Nat × List Nat)) (kvs : List (D × D)) (h : Hst) (R : Rl pre kvs) (e : h[a]? = some (.dic false kvs)) (hl : kvs.length + (evs t).length ≤ 100000) : cpA a h pre (evs t) (kvs.length + (evs t).length) (callF g n .check_part [t.d, .ref a] h) := by
  obtain ⟨n, rfl⟩ : ∃ m, n = m + 1 := ⟨n - 1, by omega⟩
  exact tm_rec (P := fun t n => ∀ (pre : List (List Nat × List Nat)) (kvs : List (D × D)) (h : Hst), Rl pre kvs → h[a]? = some (.dic false kvs) → kvs.length + (evs t).length ≤ 100000 → cpA a h pre (evs t) (kvs.length + (evs t).length) (callF g (n + 1) .check_part [t.d, .ref a] h))
    (fun t n hc pre kvs h R e hl => cpart_run (callF g (n + 1) .check_part) (callF g (n + 1) .is_name) (fun s h => isname_ok (by omega) s h) t a hc pre kvs h R e hl) t n (by omega) pre kvs h R e hl
theorem evs_len : ∀ t : Tm, (evs t).length ≤ 2 * t.sub.length
  | .nm s => by simp [evs, Tm.sub]
  | .bd s b => by have := evs_len b; simp only [evs, Tm.sub, List.length_append, List.length_cons, List.length_nil]; omega
  | .ap f a => by have h1 := evs_len f; have h2 := evs_len a; simp only [evs, Tm.sub, List.length_append, List.length_cons]; omega
theorem rl_nil : Rl [] [] := ⟨fun w => by simp [lookD], fun w => by simp [lookD], fun w d h => by simp [lookD] at h⟩
/-- the program's check -/
theorem check_ok (hn : 225 ≤ n) (t : Tm) (hh : t.high ≤ 200) (hg : t.sub.length < g) (hl : t.sub.length ≤ 4000) (h : Hst) : callF g n .check_term [t.d] h = if 60 < t.nodes then .err ⟨"TooLarge", []⟩ h else match flt [] (evs t) with
    | none => .ok (.int t.nodes) h
    | some (f, w) => .err ⟨f.cls, [("name", .str w)]⟩ h := by
  obtain ⟨n, rfl⟩ : ∃ m, n = m + 1 := ⟨n - 1, by omega⟩
  show runF 2 (b_check_term (callF g n) g) _ h = _
  rw [runF_eq]
  have sz := size_ok (g := g) (n := n) (by omega) t hg hl h
  by_cases q : 60 < t.nodes
  · have q2 : (60 : Int) < t.nodes := by omega
    rw [if_pos q]
    simp [b_check_term, sz, q2, sRaise0]
    exact finishX_eq rfl
  · have q2 : ¬ (60 : Int) < t.nodes := by omega
    rw [if_neg q]
    have l1 := evs_len t
    have c := cpart_ok (g := g) h.length t n (by omega) [] [] (h ++ [.dic false []]) rl_nil (by rw [get_app]; rfl) (by simp; omega)
    unfold cpA at c
    cases qf : flt [] (evs t) with
    | none =>
      rw [qf] at c
      obtain ⟨k, r, _⟩ := c
      simp at r
      simp [b_check_term, sz, q2, vDic, r]
      exact finish_drop _ _ _ rfl
    | some x =>
      obtain ⟨f, w⟩ := x
      rw [qf] at c
      obtain ⟨k, r⟩ := c
      simp at r
      simp [b_check_term, sz, q2, vDic, r]
      unfold finishX
      rw [if_pos (by simp [D.noRef])]
/-! the law's own fault -/
def ed (e : List Nat × List Nat) : D := .tup [.str e.1, .str e.2]
def pe (e : List Nat × List Nat) : PyData := .tuple [.str ⟨e.1.toArray⟩, .str ⟨e.2.toArray⟩]
theorem toPy_ed (h : Hst) (k : Nat) (e : List Nat × List Nat) : toPy h k (ed e) = some (pe e) := by simp [ed, pe, toPy, toPys]
theorem toPys_ed (h : Hst) (k : Nat) : ∀ es : List (List Nat × List Nat), toPys h k (es.map ed) = some (es.map pe)
  | [] => by simp [toPys]
  | e :: es => by rw [List.map_cons, toPys, toPy_ed, toPys_ed h k es]; rfl
theorem pe_depth (e : List Nat × List Nat) : (pe e).depth = 1 := by simp [pe, PyData.depth, PyData.depthAll]
theorem pes_depth : ∀ es : List (List Nat × List Nat), PyData.depthAll (es.map pe) ≤ 1
  | [] => by simp [PyData.depthAll]
  | e :: es => by have := pes_depth es; have := pe_depth e; simp only [List.map_cons, PyData.depthAll]; omega
theorem pe_eqv (a b : List Nat × List Nat) : PyData.eqv (pe a) (pe b) = decide (a = b) := by
  obtain ⟨a1, a2⟩ := a
  obtain ⟨b1, b2⟩ := b
  simp only [pe, PyData.eqv, PyData.eqvAll, Bool.and_true]
  have key : ∀ x y : List Nat, ((⟨x.toArray⟩ : Str) == ⟨y.toArray⟩) = decide (x = y) := fun x y => by
    by_cases e : x = y
    · subst e; simp
    · have : ¬ ((⟨x.toArray⟩ : Str) = ⟨y.toArray⟩) := fun z => e (by
        have := congrArg (fun s : Str => s.cps.toList) z
        simpa using this)
      simp [this, e]
  rw [key, key]
  by_cases e1 : a1 = b1 <;> by_cases e2 : a2 = b2 <;> simp [e1, e2]
theorem any_pe (e : List Nat × List Nat) (es : List (List Nat × List Nat)) : ((es.map pe).any fun z => PyData.eqv z (pe e)) = decide (e ∈ es) := by
  induction es with
  | nil => simp
  | cons x es ih =>
    rw [List.map_cons, List.any_cons, ih, pe_eqv]
    by_cases q : x = e
    · subst q; simp
    · have : ¬ e = x := fun z => q z.symm
      simp [q, this]
theorem inB_ed {m : Nat} {es : List (List Nat × List Nat)} {h : Hst} (e : List Nat × List Nat) (q : h[m]? = some (.lst (es.map ed))) : inB (ed e) (.ref m) h = some (decide (e ∈ es)) := by
  unfold inB
  dsimp only
  rw [q]
  dsimp only
  rw [if_neg (by simp [flatD, ed]), toPy_ed, toPys_ed]
  dsimp only
  have h1 := pe_depth e
  have h2 := pes_depth es
  rw [if_pos ⟨by omega, by simp only [PyData.depth]; omega⟩, any_pe]
theorem in_ed {m : Nat} {es : List (List Nat × List Nat)} {h : Hst} (e : List Nat × List Nat) (q : h[m]? = some (.lst (es.map ed))) : inD (ed e) (.ref m) h = .ok (.bl (decide (e ∈ es))) h := by unfold inD; rw [inB_ed e q]
theorem nin_ed {m : Nat} {es : List (List Nat × List Nat)} {h : Hst} (e : List Nat × List Nat) (q : h[m]? = some (.lst (es.map ed))) : ninD (ed e) (.ref m) h = .ok (.bl (!decide (e ∈ es))) h := by unfold ninD; rw [inB_ed e q]
theorem firstPy_ed {e : List Nat × List Nat} : ∀ {es : List (List Nat × List Nat)}, e ∈ es → firstPy (pe e) (es.map pe) = some (es.idxOf e)
  | x :: es, h => by
    rw [List.map_cons, firstPy, pe_eqv, List.idxOf_cons]
    by_cases q : x = e
    · subst q; simp
    · have h2 : e ∈ es := by
        rcases List.mem_cons.mp h with z | z
        · exact absurd z.symm q
        · exact z
      have e2 : (x == e) = false := by simpa using q
      rw [decide_eq_false q, if_neg (by simp), firstPy_ed h2, e2]
      rfl
theorem index_ed {m : Nat} {es : List (List Nat × List Nat)} {h : Hst} {e : List Nat × List Nat} (q : h[m]? = some (.lst (es.map ed))) (hm : e ∈ es) : indexM (.ref m) [ed e] h = .ok (.int (es.idxOf e : Nat)) h := by
  have t : toPy h 64 (.ref m) = some (.list (es.map pe)) := by rw [toPy, q]; dsimp only; rw [toPys_ed]
  unfold indexM
  dsimp only
  rw [q]
  dsimp only
  rw [if_neg (by simp [flatD, ed]), toPy_ed, t]
  dsimp only
  have h1 := pe_depth e
  have h2 := pes_depth es
  rw [if_pos ⟨by omega, by simp only [PyData.depth]; omega⟩, firstPy_ed hm]
theorem noRefs_ed : ∀ es : List (List Nat × List Nat), D.noRefs (es.map ed) = true
  | [] => rfl
  | e :: es => by simp [D.noRefs, D.noRef, ed, noRefs_ed es]
theorem events_ok (t : Tm) (n : Nat) (hn : t.high ≤ n) (hl : t.sub.length ≤ 100000) : ∀ h, callF g n .l_events [t.d] h = .ok (.ref h.length) (h ++ [.lst ((evs t).map ed)]) :=
  tm_rec (P := fun t n => t.sub.length ≤ 100000 → ∀ h : Hst, callF g n .l_events [t.d] h = .ok (.ref h.length) (h ++ [O.lst ((evs t).map ed)])) (fun t n hc hl h => by
    show runF 1 (b_l_events (callF g n) g) _ h = _
    rw [runF_eq]
    cases t with
    | nm s =>
      simp [b_l_events, Tm.d, Tm.head]
      exact finish_new h (.lst _) [] (noRefs_ed [(kU, s)])
    | bd s b =>
      simp [Tm.sub] at hl
      have h1 := hc b (by simp [Tm.kids]) (by omega)
      have l1 := evs_len b
      simp [b_l_events, Tm.d, Tm.head, h1]
      rw [addD_ref (xs := [ed (kB, s)]) (ys := (evs b).map ed) (by rw [get_app]; rfl) (by rw [get_app2]; rfl) (by simp; omega)]
      simp
      rw [addD_ref (xs := ed (kB, s) :: (evs b).map ed) (ys := [ed (kE, s)]) (by rw [get_app2]; rfl) (by rw [get_app2]; rfl) (by simp; omega)]
      simp
      have e : (evs (.bd s b)).map ed = ed (kB, s) :: ((evs b).map ed ++ [ed (kE, s)]) := by simp [evs]
      have nn := noRefs_ed (evs (.bd s b))
      simp [evs] at nn ⊢
      exact finish_newk h [_, _, _, _, .lst _] 4 _ rfl nn
    | ap f a =>
      simp [Tm.sub] at hl
      have h1 := hc f (by simp [Tm.kids]) (by omega)
      have h2 := hc a (by simp [Tm.kids]) (by omega)
      have l1 := evs_len f
      have l2 := evs_len a
      simp [b_l_events, Tm.d, Tm.head, h1, h2]
      rw [addD_ref (xs := (evs f).map ed) (ys := (evs a).map ed) (by rw [get_app]; rfl) (by rw [get_app2]; rfl) (by simp; omega)]
      simp
      have nn := noRefs_ed (evs (.ap f a))
      simp [evs] at nn ⊢
      exact finish_newk h [_, _, .lst _] 2 _ rfl nn) t n hn hl
/-- each end has its bind ahead of it -/
theorem ends_in : ∀ (t : Tm) (i : Nat) (w : List Nat), (evs t)[i]? = some (kE, w) → (kB, w) ∈ (evs t).take i
  | .nm s, i, w, e => by
    match i, e with
    | 0, e => cases (Option.some.inj e)
    | i + 1, e => simp [evs] at e
  | .ap f a, i, w, e => by
    rw [evs] at e ⊢
    by_cases q : i < (evs f).length
    · rw [List.getElem?_append_left q] at e
      rw [List.take_append_of_le_length (by omega)]
      exact ends_in f i w e
    · rw [List.getElem?_append_right (by omega)] at e
      rw [List.take_append]
      exact List.mem_append_right _ (ends_in a _ w e)
  | .bd s b, i, w, e => by
    have ev : evs (.bd s b) = (kB, s) :: (evs b ++ [(kE, s)]) := rfl
    rw [ev] at e ⊢
    match i, e with
    | 0, e => cases (Option.some.inj e)
    | i + 1, e =>
      rw [List.getElem?_cons_succ] at e
      rw [List.take_succ_cons]
      by_cases q : i < (evs b).length
      · rw [List.getElem?_append_left q] at e
        rw [List.take_append_of_le_length (by omega)]
        exact List.mem_cons_of_mem _ (ends_in b i w e)
      · rw [List.getElem?_append_right (by omega)] at e
        obtain ⟨m, hm⟩ : ∃ m, i - (evs b).length = m := ⟨_, rfl⟩
        rw [hm] at e
        match m, e with
        | 0, e => cases (Option.some.inj e); exact List.mem_cons_self
        | m + 1, e => simp at e
theorem evs_kind : ∀ (t : Tm), ∀ e ∈ evs t, e.1 = kU ∨ e.1 = kB ∨ e.1 = kE
  | .nm s, e, h => by rw [List.mem_singleton.mp (show e ∈ [(kU, s)] from h)]; exact .inl rfl
  | .ap f a, e, h => (List.mem_append.mp (show e ∈ evs f ++ evs a from h)).elim (evs_kind f e) (evs_kind a e)
  | .bd s b, e, h => by
    rcases List.mem_cons.mp (show e ∈ (kB, s) :: (evs b ++ [(kE, s)]) from h) with q | q
    · rw [q]; exact .inr (.inl rfl)
    · rcases List.mem_append.mp q with q | q
      · exact evs_kind b e q
      · rw [List.mem_singleton.mp q]; exact .inr (.inr rfl)
theorem cutL_mid {α : Type} (xs : List α) (j k : Nat) (hj : j ≤ k) (hk : k ≤ xs.length) : cutL xs (some (j : Int)) (some (k : Int)) = (xs.take k).drop j := by
  unfold cutL
  rw [HT.sIx_nat, HT.sIx_nat, Nat.min_eq_left hk, Nat.min_eq_left (by omega), List.drop_take]
theorem fault_ok (hn : 222 ≤ n) (t : Tm) (hh : t.high ≤ 200) (hl : t.sub.length ≤ 4000) (h : Hst) : callF g n .l_fault [t.d] h = .ok (if 60 < t.nodes then .tup [.str [108, 97, 114, 103, 101], .str []] else match flt [] (evs t) with
    | none => .tup [.str [110, 111, 110, 101], .str []]
    | some (f, w) => .tup [.str f.tag, .str w]) h := by
  obtain ⟨n, rfl⟩ : ∃ m, n = m + 1 := ⟨n - 1, by omega⟩
  show runF 5 (b_l_fault (callF g n) g) _ h = _
  rw [runF_eq]
  have nd := nodes_ok (g := g) t n (by omega) h
  by_cases q : 60 < t.nodes
  · have q2 : (60 : Int) < t.nodes := by omega
    rw [if_pos q]
    simp [b_l_fault, nd, q2]
  · have q2 : ¬ (60 : Int) < t.nodes := by omega
    rw [if_neg q]
    have ev := events_ok (g := g) t n (by omega) (by omega) h
    have le := evs_len t
    have ends := ends_in t
    have kinds := evs_kind t
    obtain ⟨es, hes⟩ : ∃ es, evs t = es := ⟨_, rfl⟩
    rw [hes] at ev le ends kinds ⊢
    have loop := forL_sat (chk := .none) (g := gNm 2) (b := y_l_fault_1 (callF g n) g) (fun d h' => ∃ f w l, d = .tup [.str (Ft.tag f), .str w] ∧ flt [] es = some (f, w) ∧ h' = h ++ .lst (es.map ed) :: l) (rngD 0 es.length)
      (fun i en h' => (∃ (x2 x3 x4 : Option D), en = [some t.d, some (.ref h.length), x2, x3, x4]) ∧ (∃ l, h' = h ++ .lst (es.map ed) :: l) ∧ flt [] es = flt (es.take i) (es.drop i)) [some t.d, some (.ref h.length), none, none, none] (h ++ [.lst (es.map ed)]) ⟨⟨_, _, _, rfl⟩, ⟨[], rfl⟩, by simp⟩ (fun _ _ _ _ _ => trivial)
      (fun i x en h' hx ⟨⟨x2, x3, x4, e1⟩, ⟨l, e2⟩, e3⟩ => by
        obtain ⟨hi, rfl⟩ := range_get hx
        subst e1
        rw [e2]
        refine ⟨_, rfl, ?_⟩
        obtain ⟨⟨k, w⟩, he⟩ : ∃ e, es[i]? = some e := ⟨_, List.getElem?_eq_getElem hi⟩
        have dr : es.drop i = (k, w) :: es.drop (i + 1) := by
          rw [List.drop_eq_getElem_cons hi]
          congr 1
          rw [List.getElem?_eq_getElem hi] at he
          exact Option.some.inj he
        have tk : es.take (i + 1) = es.take i ++ [(k, w)] := by rw [List.take_add_one, he]; rfl
        rw [dr, flt] at e3
        obtain ⟨T, hT⟩ : ∃ T, es.take i = T := ⟨_, rfl⟩
        rw [hT] at e3 tk
        have eE : ∀ l : Hst, (h ++ O.lst (es.map ed) :: l)[h.length]? = some (.lst (es.map ed)) := fun l => by rw [get_app]; rfl
        have ixe : ∀ l : Hst, ixD (.ref h.length) (.int (i : Int)) (h ++ O.lst (es.map ed) :: l) = .ok (ed (k, w)) (h ++ O.lst (es.map ed) :: l) := fun l => ixD_lst (eE l) (by rw [atI_nat, List.getElem?_map, he]; rfl)
        have sl : ∀ l : Hst, slD (.ref h.length) none (some (i : Int)) (h ++ O.lst (es.map ed) :: l) = .ok (.ref (h.length + (l.length + 1))) (h ++ O.lst (es.map ed) :: (l ++ [.lst (T.map ed)])) := fun l => by
          rw [slD_ref _ _ (eE l), cutL_map, cutL_take, hT]; simp
        have inT : ∀ (e : List Nat × List Nat) (l : Hst), inD (ed e) (.ref (h.length + (l.length + 1))) (h ++ O.lst (es.map ed) :: (l ++ [.lst (T.map ed)])) = .ok (.bl (decide (e ∈ T))) (h ++ O.lst (es.map ed) :: (l ++ [.lst (T.map ed)])) := fun e l => in_ed e (by rw [get_app2]; simp)
        have nm := fun h => named_ok (g := g) (n := n) (by omega) w h
        have edd : ed (k, w) = .tup [.str k, .str w] := rfl
        rw [edd] at ixe
        have done : ∀ (f : Ft) (l : Hst) (en : En), f1 T (k, w) = some (f, w) → (SR.rt (.tup [.str (Ft.tag f), .str w]) (h ++ O.lst (es.map ed) :: l)).sat (fun en h' => (∃ (x2 x3 x4 : Option D), en = [some t.d, some (.ref h.length), x2, x3, x4]) ∧ (∃ l, h' = h ++ .lst (es.map ed) :: l) ∧ flt [] es = flt (es.take (i + 1)) (es.drop (i + 1))) (fun d h' => ∃ f w l, d = .tup [.str (Ft.tag f), .str w] ∧ flt [] es = some (f, w) ∧ h' = h ++ .lst (es.map ed) :: l) := fun f l en q => by
          rw [q] at e3
          exact ⟨f, w, l, rfl, e3, rfl⟩
        have next : ∀ (l : Hst) (x2 x3 x4 : Option D), f1 T (k, w) = none → (SR.nx [some t.d, some (.ref h.length), x2, x3, x4] (h ++ O.lst (es.map ed) :: l)).sat (fun en h' => (∃ (x2 x3 x4 : Option D), en = [some t.d, some (.ref h.length), x2, x3, x4]) ∧ (∃ l, h' = h ++ .lst (es.map ed) :: l) ∧ flt [] es = flt (es.take (i + 1)) (es.drop (i + 1))) (fun d h' => ∃ f w l, d = .tup [.str (Ft.tag f), .str w] ∧ flt [] es = some (f, w) ∧ h' = h ++ .lst (es.map ed) :: l) := fun l x2 x3 x4 q => by
          rw [q] at e3
          exact ⟨⟨_, _, _, rfl⟩, ⟨l, rfl⟩, by rw [tk]; exact e3⟩
        have ty : ∀ l : Hst, tyD (.ref h.length) (h ++ O.lst (es.map ed) :: l) = some .list := fun l => tyD_lst (eE l)
        rcases kinds (k, w) (List.mem_of_getElem? he) with rfl | rfl | rfl
        · cases b : nmB w with
          | false =>
            have y : y_l_fault_1 (callF g n) g [some t.d, some (.ref h.length), some (.int (0 + (i : Int))), x3, x4] (h ++ O.lst (es.map ed) :: l) = .rt (.tup [.str Ft.bad.tag, .str w]) (h ++ O.lst (es.map ed) :: l) := by
              simp [y_l_fault_1, ixe, nm, b, Ft.tag]
            show (y_l_fault_1 (callF g n) g [some t.d, some (.ref h.length), some (.int (0 + (i : Int))), x3, x4] (h ++ O.lst (es.map ed) :: l)).sat _ _
            rw [y]
            exact done .bad l [] (by simp [f1, b])
          | true =>
            have i1 := inT (kU, w) l
            rw [show ed (kU, w) = .tup [.str kU, .str w] from rfl] at i1
            by_cases u : (kU, w) ∈ T
            · have y : y_l_fault_1 (callF g n) g [some t.d, some (.ref h.length), some (.int (0 + (i : Int))), x3, x4] (h ++ O.lst (es.map ed) :: l) = .rt (.tup [.str Ft.rep.tag, .str w]) (h ++ O.lst (es.map ed) :: (l ++ [.lst (T.map ed)])) := by
                simp [u] at i1
                simp [y_l_fault_1, ixe, nm, b, sl, i1, Ft.tag]
              show (y_l_fault_1 (callF g n) g [some t.d, some (.ref h.length), some (.int (0 + (i : Int))), x3, x4] (h ++ O.lst (es.map ed) :: l)).sat _ _
              rw [y]
              exact done .rep _ [] (by simp [f1, b, u])
            · have y : y_l_fault_1 (callF g n) g [some t.d, some (.ref h.length), some (.int (0 + (i : Int))), x3, x4] (h ++ O.lst (es.map ed) :: l) = .nx [some t.d, some (.ref h.length), some (.int (i : Int)), some (.str kU), some (.str w)] (h ++ O.lst (es.map ed) :: (l ++ [.lst (T.map ed)])) := by
                simp [u] at i1
                simp [y_l_fault_1, ixe, nm, b, sl, i1]
              show (y_l_fault_1 (callF g n) g [some t.d, some (.ref h.length), some (.int (0 + (i : Int))), x3, x4] (h ++ O.lst (es.map ed) :: l)).sat _ _
              rw [y]
              exact next _ _ _ _ (by simp [f1, b, u])
        · cases b : nmB w with
          | false =>
            have y : y_l_fault_1 (callF g n) g [some t.d, some (.ref h.length), some (.int (0 + (i : Int))), x3, x4] (h ++ O.lst (es.map ed) :: l) = .rt (.tup [.str Ft.bad.tag, .str w]) (h ++ O.lst (es.map ed) :: l) := by
              simp [y_l_fault_1, ixe, nm, b, Ft.tag]
            show (y_l_fault_1 (callF g n) g [some t.d, some (.ref h.length), some (.int (0 + (i : Int))), x3, x4] (h ++ O.lst (es.map ed) :: l)).sat _ _
            rw [y]
            exact done .bad l [] (by simp [f1, b])
          | true =>
            have i1 := inT (kU, w) l
            rw [show ed (kU, w) = .tup [.str kU, .str w] from rfl] at i1
            by_cases u : (kU, w) ∈ T
            · have y : y_l_fault_1 (callF g n) g [some t.d, some (.ref h.length), some (.int (0 + (i : Int))), x3, x4] (h ++ O.lst (es.map ed) :: l) = .rt (.tup [.str Ft.rep.tag, .str w]) (h ++ O.lst (es.map ed) :: (l ++ [.lst (T.map ed)])) := by
                simp [u] at i1
                simp [y_l_fault_1, ixe, nm, b, sl, i1, Ft.tag]
              show (y_l_fault_1 (callF g n) g [some t.d, some (.ref h.length), some (.int (0 + (i : Int))), x3, x4] (h ++ O.lst (es.map ed) :: l)).sat _ _
              rw [y]
              exact done .rep _ [] (by simp [f1, b, u])
            · have i2 := inT (kB, w) (l ++ [.lst (T.map ed)])
              have s2 := sl (l ++ [.lst (T.map ed)])
              rw [show ed (kB, w) = .tup [.str kB, .str w] from rfl] at i2
              by_cases u2 : (kB, w) ∈ T
              · have y : y_l_fault_1 (callF g n) g [some t.d, some (.ref h.length), some (.int (0 + (i : Int))), x3, x4] (h ++ O.lst (es.map ed) :: l) = .rt (.tup [.str Ft.rep.tag, .str w]) (h ++ O.lst (es.map ed) :: (l ++ [.lst (T.map ed), .lst (T.map ed)])) := by
                  simp [u] at i1
                  simp [u2] at i2
                  simp at s2
                  simp [y_l_fault_1, ixe, nm, b, sl, i1, s2, i2, Ft.tag]
                show (y_l_fault_1 (callF g n) g [some t.d, some (.ref h.length), some (.int (0 + (i : Int))), x3, x4] (h ++ O.lst (es.map ed) :: l)).sat _ _
                rw [y]
                exact done .rep _ [] (by simp [f1, b, u2])
              · have y : y_l_fault_1 (callF g n) g [some t.d, some (.ref h.length), some (.int (0 + (i : Int))), x3, x4] (h ++ O.lst (es.map ed) :: l) = .nx [some t.d, some (.ref h.length), some (.int (i : Int)), some (.str kB), some (.str w)] (h ++ O.lst (es.map ed) :: (l ++ [.lst (T.map ed), .lst (T.map ed)])) := by
                  simp [u] at i1
                  simp [u2] at i2
                  simp at s2
                  simp [y_l_fault_1, ixe, nm, b, sl, i1, s2, i2]
                show (y_l_fault_1 (callF g n) g [some t.d, some (.ref h.length), some (.int (0 + (i : Int))), x3, x4] (h ++ O.lst (es.map ed) :: l)).sat _ _
                rw [y]
                exact next _ _ _ _ (by simp [f1, b, u, u2])
        · have hm : (kB, w) ∈ T := by rw [← hT]; exact ends i w he
          have hid : es.idxOf (kB, w) = T.idxOf (kB, w) := by
            have : es = T ++ es.drop i := by rw [← hT, List.take_append_drop]
            rw [this, List.idxOf_append, if_pos hm]
          have lT : T.length = i := by rw [← hT, List.length_take]; omega
          have lid : T.idxOf (kB, w) < i := by rw [← lT]; exact List.idxOf_lt_length_iff.mpr hm
          have ixk : indexM (.ref h.length) [.tup [.str kB, .str w]] (h ++ O.lst (es.map ed) :: l) = .ok (.int (T.idxOf (kB, w) : Nat)) (h ++ O.lst (es.map ed) :: l) := by
            rw [← hid]
            exact index_ed (e := (kB, w)) (eE l) (List.mem_of_mem_take (hT ▸ hm))
          obtain ⟨U, hU⟩ : ∃ U, T.drop (T.idxOf (kB, w)) = U := ⟨_, rfl⟩
          have s3 : slD (.ref h.length) (some ((T.idxOf (kB, w) : Nat) : Int)) (some (i : Int)) (h ++ O.lst (es.map ed) :: l) = .ok (.ref (h.length + (l.length + 1))) (h ++ O.lst (es.map ed) :: (l ++ [.lst (U.map ed)])) := by
            rw [slD_ref _ _ (eE l), cutL_map, cutL_mid _ _ _ (by omega) (by omega), hT, hU]; simp
          have i3 : ninD (ed (kU, w)) (.ref (h.length + (l.length + 1))) (h ++ O.lst (es.map ed) :: (l ++ [.lst (U.map ed)])) = .ok (.bl (!decide ((kU, w) ∈ U))) (h ++ O.lst (es.map ed) :: (l ++ [.lst (U.map ed)])) := nin_ed _ (by rw [get_app2]; simp)
          rw [show ed (kU, w) = .tup [.str kU, .str w] from rfl] at i3
          by_cases u : (kU, w) ∈ U
          · have y : y_l_fault_1 (callF g n) g [some t.d, some (.ref h.length), some (.int (0 + (i : Int))), x3, x4] (h ++ O.lst (es.map ed) :: l) = .nx [some t.d, some (.ref h.length), some (.int (i : Int)), some (.str kE), some (.str w)] (h ++ O.lst (es.map ed) :: (l ++ [.lst (U.map ed)])) := by
              simp [u] at i3
              simp [y_l_fault_1, ixe, ty, ixk, s3, i3]
            show (y_l_fault_1 (callF g n) g [some t.d, some (.ref h.length), some (.int (0 + (i : Int))), x3, x4] (h ++ O.lst (es.map ed) :: l)).sat _ _
            rw [y]
            exact next _ _ _ _ (by simp [f1, hU, u])
          · have y : y_l_fault_1 (callF g n) g [some t.d, some (.ref h.length), some (.int (0 + (i : Int))), x3, x4] (h ++ O.lst (es.map ed) :: l) = .rt (.tup [.str Ft.uns.tag, .str w]) (h ++ O.lst (es.map ed) :: (l ++ [.lst (U.map ed)])) := by
              simp [u] at i3
              simp [y_l_fault_1, ixe, ty, ixk, s3, i3, Ft.tag]
            show (y_l_fault_1 (callF g n) g [some t.d, some (.ref h.length), some (.int (0 + (i : Int))), x3, x4] (h ++ O.lst (es.map ed) :: l)).sat _ _
            rw [y]
            exact done .uns _ [] (by simp [f1, hU, u]))
    have e0 : (h ++ [O.lst (es.map ed)])[h.length]? = some (.lst (es.map ed)) := by rw [get_app]; rfl
    have nc := forL_nc (chk := .none) (g := gNm 2) (b := y_l_fault_1 (callF g n) g) (rngD 0 es.length) [some t.d, some (.ref h.length), none, none, none]
    have le2 : (lenD [.ref h.length] (h ++ [O.lst (es.map ed)])) = .ok (.int es.length) (h ++ [O.lst (es.map ed)]) := by rw [lenD_lst e0]; simp
    cases hr : forL .none (gNm 2) (y_l_fault_1 (callF g n) g) (rngD 0 es.length) [some t.d, some (.ref h.length), none, none, none] (h ++ [.lst (es.map ed)]) with
    | nx en h' =>
      rw [hr] at loop
      obtain ⟨_, ⟨l, e2⟩, e3⟩ := loop
      rw [rngD_len, List.take_length, List.drop_length] at e3
      subst e2
      rw [e3]
      simp [b_l_fault, nd, q2, ev, le2, rng1K_nat (j := es.length) (h ++ [O.lst (es.map ed)]) (by omega), hr, flt]
      exact finish_drop _ _ _ rfl
    | rt d h' =>
      rw [hr] at loop
      obtain ⟨f, w, l, e1, e2, e3⟩ := loop
      subst e1 e3
      rw [e2]
      simp [b_l_fault, nd, q2, ev, le2, rng1K_nat (j := es.length) (h ++ [O.lst (es.map ed)]) (by omega), hr]
      exact finish_drop _ _ _ rfl
    | ct en h' => exact absurd hr (nc _ _ _)
    | bk en h' => rw [hr] at loop; exact loop.elim
    | err x en h' => rw [hr] at loop; exact loop.elim
    | bad => rw [hr] at loop; exact loop.elim
/-! what is told, what is due -/
abbrev sTold : List Nat := [116, 111, 108, 100]
abbrev sRef : List Nat := [114, 101, 102, 117, 115, 101, 100]
def Ft.fl : Ft → List Bool
  | .bad => [true, false, false, false, true, false, true]
  | .rep => [false, true, false, false, true, false, true]
  | .uns => [false, false, true, false, true, false, true]
def oc (t : Tm) : Option (List Bool × List Nat) := if 60 < t.nodes then some ([false, false, false, false, false, true, true], []) else match flt [] (evs t) with
  | none => none
  | some (f, w) => some (f.fl, w)
def Ans (t : Tm) (h : Hst) (r : Res D) : Prop := match oc t with
  | none => r = .ok (.tup [.str sTold, .int t.nodes]) h
  | some (fl, w) => ∃ (l : Hst) (a : Nat), r = .ok (.tup [.str sRef, .ref a, .str w]) (h ++ l) ∧ (h ++ l)[a]? = some (.lst (fl.map .bl))
theorem due_ok (hn : 223 ≤ n) (t : Tm) (hh : t.high ≤ 200) (hl : t.sub.length ≤ 4000) (h : Hst) : Ans t h (callF g n .l_due [t.d] h) := by
  obtain ⟨n, rfl⟩ : ∃ m, n = m + 1 := ⟨n - 1, by omega⟩
  show Ans t h (runF 3 (b_l_due (callF g n) g) _ h)
  rw [runF_eq]
  have fo := fault_ok (g := g) (n := n) (by omega) t hh hl h
  have nd := nodes_ok (g := g) t n (by omega) h
  unfold Ans oc
  have fin : ∀ (fl4 fl3 : List Bool) (w : List Nat), addD (.ref h.length) (.ref (h.length + 1)) (h ++ [.lst (fl4.map .bl), .lst (fl3.map .bl)]) = .ok (.ref (h.length + 2)) (h ++ [.lst (fl4.map .bl), .lst (fl3.map .bl), .lst ((fl4 ++ fl3).map .bl)]) ∨ 16777216 < fl4.length + fl3.length := fun fl4 fl3 w => by
    by_cases q : fl4.length + fl3.length ≤ 16777216
    · left
      rw [addD_ref (xs := fl4.map D.bl) (ys := fl3.map D.bl) (by rw [get_app]; rfl) (by rw [get_app2]; rfl) (by simpa using q)]
      simp
    · right; omega
  by_cases q : 60 < t.nodes
  · rw [if_pos q]
    rw [if_pos q] at fo
    dsimp only
    refine ⟨[.lst ([false, false, false, false].map .bl), .lst ([false, true, true].map .bl), .lst ([false, false, false, false, false, true, true].map .bl)], h.length + 2, ?_, by rw [get_app2]; rfl⟩
    have a := (fin [false, false, false, false] [false, true, true] []).resolve_right (by simp)
    simp at a
    simp [b_l_due, fo, a]
    exact finish_keep _ _ _ rfl (fun k z => nomatch z)
  · rw [if_neg q]
    rw [if_neg q] at fo
    cases qf : flt [] (evs t) with
    | none =>
      rw [qf] at fo
      dsimp only at fo ⊢
      simp [b_l_due, fo, nd]
    | some x =>
      obtain ⟨f, w⟩ := x
      rw [qf] at fo
      dsimp only at fo ⊢
      cases f with
      | bad =>
        simp only [Ft.tag] at fo
        refine ⟨[.lst ([true, false, false, false].map .bl), .lst ([true, false, true].map .bl), .lst (Ft.bad.fl.map .bl)], h.length + 2, ?_, by rw [get_app2]; rfl⟩
        have a := (fin [true, false, false, false] [true, false, true] []).resolve_right (by simp)
        simp at a
        simp [b_l_due, fo, a, Ft.fl]
        exact finish_keep _ _ _ rfl (fun k z => nomatch z)
      | rep =>
        simp only [Ft.tag] at fo
        refine ⟨[.lst ([false, true, false, false].map .bl), .lst ([true, false, true].map .bl), .lst (Ft.rep.fl.map .bl)], h.length + 2, ?_, by rw [get_app2]; rfl⟩
        have a := (fin [false, true, false, false] [true, false, true] []).resolve_right (by simp)
        simp at a
        simp [b_l_due, fo, a, Ft.fl]
        exact finish_keep _ _ _ rfl (fun k z => nomatch z)
      | uns =>
        simp only [Ft.tag] at fo
        refine ⟨[.lst ([false, false, true, false].map .bl), .lst ([true, false, true].map .bl), .lst (Ft.uns.fl.map .bl)], h.length + 2, ?_, by rw [get_app2]; rfl⟩
        have a := (fin [false, false, true, false] [true, false, true] []).resolve_right (by simp)
        simp at a
        simp [b_l_due, fo, a, Ft.fl]
        exact finish_keep _ _ _ rfl (fun k z => nomatch z)
theorem told_ok (hn : 226 ≤ n) (t : Tm) (hh : t.high ≤ 200) (hg : t.sub.length < g) (hl : t.sub.length ≤ 4000) (h : Hst) : Ans t h (callF g n .l_told [t.d] h) := by
  obtain ⟨n, rfl⟩ : ∃ m, n = m + 1 := ⟨n - 1, by omega⟩
  show Ans t h (runF 3 (b_l_told (callF g n) g) _ h)
  rw [runF_eq]
  have fo := check_ok (g := g) (n := n) (by omega) t hh hg hl h
  unfold Ans oc
  have fin : ∀ (fl4 fl3 : List Bool), addD (.ref h.length) (.ref (h.length + 1)) (h ++ [.lst (fl4.map .bl), .lst (fl3.map .bl)]) = .ok (.ref (h.length + 2)) (h ++ [.lst (fl4.map .bl), .lst (fl3.map .bl), .lst ((fl4 ++ fl3).map .bl)]) ∨ 16777216 < fl4.length + fl3.length := fun fl4 fl3 => by
    by_cases q : fl4.length + fl3.length ≤ 16777216
    · left
      rw [addD_ref (xs := fl4.map D.bl) (ys := fl3.map D.bl) (by rw [get_app]; rfl) (by rw [get_app2]; rfl) (by simpa using q)]
      simp
    · right; omega
  by_cases q : 60 < t.nodes
  · rw [if_pos q]
    rw [if_pos q] at fo
    dsimp only
    refine ⟨[.lst ([false, false, false, false].map .bl), .lst ([false, true, true].map .bl), .lst ([false, false, false, false, false, true, true].map .bl)], h.length + 2, ?_, by rw [get_app2]; rfl⟩
    have a := (fin [false, false, false, false] [false, true, true]).resolve_right (by simp)
    simp at a
    simp [b_l_told, sTry, fo, onE, vIsX, vIsXB, vXf, a, endX, okX]
    rw [if_pos ⟨⟨rfl, rfl, rfl⟩, rfl⟩, finR_rt]
    exact finish_keep _ _ _ rfl (fun k z => nomatch z)
  · rw [if_neg q]
    rw [if_neg q] at fo
    cases qf : flt [] (evs t) with
    | none =>
      rw [qf] at fo
      dsimp only at fo ⊢
      simp [b_l_told, sTry, fo]
    | some x =>
      obtain ⟨f, w⟩ := x
      rw [qf] at fo
      dsimp only at fo ⊢
      have lk : List.lookup ("name" : Str) (([("name" : Str)] : List Str).zip [D.str w]) = some (.str w) := by simp [List.lookup]
      cases f with
      | bad =>
        simp only [Ft.cls] at fo
        refine ⟨[.lst ([true, false, false, false].map .bl), .lst ([true, false, true].map .bl), .lst (Ft.bad.fl.map .bl)], h.length + 2, ?_, by rw [get_app2]; rfl⟩
        have a := (fin [true, false, false, false] [true, false, true]).resolve_right (by simp)
        have xm : ("BadName" : Str) ∈ xt.cls ∧ ("name" : Str) ∈ xt.fld := by decide +kernel
        simp at a
        simp [b_l_told, sTry, fo, onE, vIsX, vIsXB, vXf, a, xm, endX, okX, Ft.fl]
        rw [if_pos ⟨⟨rfl, rfl, rfl⟩, rfl⟩, finR_rt]
        exact finish_keep _ _ _ rfl (fun k z => nomatch z)
      | rep =>
        simp only [Ft.cls] at fo
        refine ⟨[.lst ([false, true, false, false].map .bl), .lst ([true, false, true].map .bl), .lst (Ft.rep.fl.map .bl)], h.length + 2, ?_, by rw [get_app2]; rfl⟩
        have a := (fin [false, true, false, false] [true, false, true]).resolve_right (by simp)
        have xm : ("Repeated" : Str) ∈ xt.cls ∧ ("name" : Str) ∈ xt.fld := by decide +kernel
        simp at a
        simp [b_l_told, sTry, fo, onE, vIsX, vIsXB, vXf, a, xm, endX, okX, Ft.fl]
        rw [if_pos ⟨⟨rfl, rfl, rfl⟩, rfl⟩, finR_rt]
        exact finish_keep _ _ _ rfl (fun k z => nomatch z)
      | uns =>
        simp only [Ft.cls] at fo
        refine ⟨[.lst ([false, false, true, false].map .bl), .lst ([true, false, true].map .bl), .lst (Ft.uns.fl.map .bl)], h.length + 2, ?_, by rw [get_app2]; rfl⟩
        have a := (fin [false, false, true, false] [true, false, true]).resolve_right (by simp)
        have xm : ("Unused" : Str) ∈ xt.cls ∧ ("name" : Str) ∈ xt.fld := by decide +kernel
        simp at a
        simp [b_l_told, sTry, fo, onE, vIsX, vIsXB, vXf, a, xm, endX, okX, Ft.fl]
        rw [if_pos ⟨⟨rfl, rfl, rfl⟩, rfl⟩, finR_rt]
        exact finish_keep _ _ _ rfl (fun k z => nomatch z)
theorem ask_ok (t : Tm) (hh : t.high ≤ 200) (hl : t.sub.length ≤ 4000) (a b c e : Option D) (h : Hst) : ∃ l, y_f_law_1 (callF 10001 229) 10001 [a, b, c, e, some t.d] h = .nx [a, b, c, e, some t.d] (h ++ l) := by
  have p := told_ok (g := 10001) (n := 229) (by decide) t hh (by omega) hl h
  unfold Ans at p
  cases q : oc t with
  | none =>
    rw [q] at p
    have p2 := due_ok (g := 10001) (n := 229) (by decide) t hh hl h
    unfold Ans at p2
    rw [q] at p2
    have s := same_ok (g := 10001) (h := h) 2 229 (x := .tup [.str sTold, .int t.nodes]) (y := .tup [.str sTold, .int t.nodes]) (by decide) (Or.inr (Or.inr (Or.inr (Or.inl ⟨_, _, rfl, rfl, rfl, by simp, fun i dx dy e1 e2 => by
      cases (Option.some.inj (e1.symm.trans e2))
      match i, e1 with
      | 0, e1 => cases (Option.some.inj e1); exact .str _ _ _
      | 1, e1 => cases (Option.some.inj e1); exact .int _ _ _⟩))))
    refine ⟨[], ?_⟩
    dsimp only at p p2
    simp [y_f_law_1, p, p2, s]
  | some x =>
    obtain ⟨fl, w⟩ := x
    rw [q] at p
    obtain ⟨l, r, p1, p3⟩ := p
    have p2 := due_ok (g := 10001) (n := 229) (by decide) t hh hl (h ++ l)
    unfold Ans at p2
    rw [q] at p2
    obtain ⟨l2, r2, p4, p5⟩ := p2
    have fll : fl.length ≤ 10 := by
      unfold oc at q
      split at q
      · cases q; simp
      · split at q
        · cases q
        · rename_i f w' _
          cases q
          cases f <;> simp [Ft.fl]
    have s := same_ok (g := 10001) (h := h ++ l ++ l2) 3 229 (x := .tup [.str sRef, .ref r, .str w]) (y := .tup [.str sRef, .ref r2, .str w]) (by decide) (Or.inr (Or.inr (Or.inr (Or.inl ⟨_, _, rfl, rfl, rfl, by simp, fun i dx dy e1 e2 => by
      match i, e1, e2 with
      | 0, e1, e2 => cases (Option.some.inj e1); cases (Option.some.inj e2); exact .str _ _ _
      | 1, e1, e2 =>
        cases (Option.some.inj e1); cases (Option.some.inj e2)
        exact Lk.mapR (dd := D.bl) (xs := fl) (get_old p3) p5 (by omega) fun b _ => Lk.bl _ _ _
      | 2, e1, e2 => cases (Option.some.inj e1); cases (Option.some.inj e2); exact .str _ _ _⟩))))
    refine ⟨l ++ l2, ?_⟩
    rw [List.append_assoc] at p4 s
    simp [y_f_law_1, p1, p4, s]
/-! the nests -/
def nms : Tm → List (List Nat)
  | .nm s => [s]
  | .bd s b => s :: nms b
  | .ap f a => nms f ++ nms a
theorem nms_len : ∀ t : Tm, (nms t).length ≤ t.sub.length
  | .nm s => by simp [nms, Tm.sub]
  | .bd s b => by have := nms_len b; simp only [nms, Tm.sub, List.length_cons]; omega
  | .ap f a => by have h1 := nms_len f; have h2 := nms_len a; simp only [nms, Tm.sub, List.length_append, List.length_cons]; omega
theorem nms_pos : ∀ t : Tm, 0 < (nms t).length
  | .nm s => by simp [nms]
  | .bd s b => by simp [nms]
  | .ap f a => by have := nms_pos f; simp only [nms, List.length_append]; omega
theorem strings_ok (t : Tm) (n : Nat) (hn : t.high ≤ n) (hl : t.sub.length ≤ 100000) : ∀ h, callF g n .l_strings [t.d] h = .ok (.ref h.length) (h ++ [.lst ((nms t).map .str)]) :=
  tm_rec (P := fun t n => t.sub.length ≤ 100000 → ∀ h : Hst, callF g n .l_strings [t.d] h = .ok (.ref h.length) (h ++ [O.lst ((nms t).map .str)])) (fun t n hc hl h => by
    show runF 1 (b_l_strings (callF g n) g) _ h = _
    rw [runF_eq]
    cases t with
    | nm s =>
      simp [b_l_strings, Tm.d, Tm.head]
      exact finish_new h (.lst _) [] (noRefs_str [s])
    | bd s b =>
      simp [Tm.sub] at hl
      have h1 := hc b (by simp [Tm.kids]) (by omega)
      have l1 := nms_len b
      simp [b_l_strings, Tm.d, Tm.head, h1]
      rw [addD_ref (xs := [.str s]) (ys := (nms b).map .str) (by rw [get_app]; rfl) (by rw [get_app2]; rfl) (by simp; omega)]
      simp
      have nn := noRefs_str (nms (.bd s b))
      simp [nms] at nn ⊢
      exact finish_newk h [_, _, .lst _] 2 _ rfl nn
    | ap f a =>
      simp [Tm.sub] at hl
      have h1 := hc f (by simp [Tm.kids]) (by omega)
      have h2 := hc a (by simp [Tm.kids]) (by omega)
      have l1 := nms_len f
      have l2 := nms_len a
      simp [b_l_strings, Tm.d, Tm.head, h1, h2]
      rw [addD_ref (xs := (nms f).map .str) (ys := (nms a).map .str) (by rw [get_app]; rfl) (by rw [get_app2]; rfl) (by simp; omega)]
      simp
      have nn := noRefs_str (nms (.ap f a))
      simp [nms] at nn ⊢
      exact finish_newk h [_, _, .lst _] 2 _ rfl nn) t n hn hl
theorem pop0 {m : Nat} {x : D} {xs : List D} {h : Hst} (e : h[m]? = some (.lst (x :: xs))) : popM (.ref m) [.int 0] h = .ok x (h.set m (.lst xs)) := by
  unfold popM
  dsimp only
  rw [e]
  dsimp only
  have : ixN (x :: xs).length 0 = some 0 := by unfold ixN; rw [if_pos (by omega), if_pos (by simp)]; rfl
  rw [this]
  rfl
/-- the same nest, its strings from a row -/
theorem dressed_ok (a : Nat) (t : Tm) (n : Nat) (hn : t.high ≤ n) : ∀ (ws : List (List Nat)) (h : Hst), h[a]? = some (.lst (ws.map .str)) → (nms t).length ≤ ws.length →
    ∃ t' : Tm, callF g n .l_dressed [t.d, .ref a] h = .ok t'.d (h.set a (.lst ((ws.drop (nms t).length).map .str))) ∧ t'.high = t.high ∧ t'.sub.length = t.sub.length :=
  tm_rec (P := fun t n => ∀ (ws : List (List Nat)) (h : Hst), h[a]? = some (.lst (ws.map .str)) → (nms t).length ≤ ws.length →
    ∃ t' : Tm, callF g n .l_dressed [t.d, .ref a] h = .ok t'.d (h.set a (.lst ((ws.drop (nms t).length).map .str))) ∧ t'.high = t.high ∧ t'.sub.length = t.sub.length) (fun t n hc ws h e hl => by
    show ∃ t' : Tm, runF 4 (b_l_dressed (callF g n) g) [t.d, .ref a] h = _ ∧ _
    have la := lt_get e
    have ty := tyD_lst e
    cases t with
    | nm s =>
      obtain ⟨w, ws, rfl⟩ := List.exists_cons_of_length_pos (show 0 < ws.length by simp [nms] at hl; omega)
      refine ⟨.nm w, ?_, rfl, rfl⟩
      have p := pop0 (x := .str w) (xs := ws.map .str) e
      rw [runF_eq]
      simp [b_l_dressed, Tm.d, Tm.head, ty, p, nms]
      exact finish_eq (by simp)
    | bd s b =>
      obtain ⟨w, ws, rfl⟩ := List.exists_cons_of_length_pos (show 0 < ws.length by simp [nms] at hl; omega)
      have p := pop0 (x := .str w) (xs := ws.map .str) e
      obtain ⟨b', r, h1, h2⟩ := hc b (by simp [Tm.kids]) ws (h.set a (.lst (ws.map .str))) (by rw [List.getElem?_set_self la]) (by simpa [nms] using hl)
      rw [List.set_set] at r
      refine ⟨.bd w b', ?_, by simp [Tm.high, h1], by simp [Tm.sub, h2]⟩
      rw [runF_eq]
      simp [b_l_dressed, Tm.d, Tm.head, ty, p, nms, r]
      have : (nms b).length + 1 = (nms (.bd s b)).length := by simp [nms]
      exact finish_eq (by simp)
    | ap f b =>
      have hl2 : (nms f).length + (nms b).length ≤ ws.length := by simpa [nms] using hl
      obtain ⟨f', r1, h1, h2⟩ := hc f (by simp [Tm.kids]) ws h e (by omega)
      obtain ⟨b', r2, h3, h4⟩ := hc b (by simp [Tm.kids]) (ws.drop (nms f).length) (h.set a (.lst ((ws.drop (nms f).length).map .str))) (by rw [List.getElem?_set_self la]) (by rw [List.length_drop]; omega)
      rw [List.set_set, List.drop_drop] at r2
      refine ⟨.ap f' b', ?_, by simp [Tm.high, h1, h3], by simp [Tm.sub, h2, h4]⟩
      rw [runF_eq]
      simp only [List.map_drop] at r1 r2
      simp [b_l_dressed, Tm.d, Tm.head, nms, r1, r2]
      exact finish_eq (by simp)) t n hn
theorem setL {m j : Nat} {xs : List D} {d : D} {h : Hst} (e : h[m]? = some (.lst xs)) (hj : j < xs.length) : setD (.ref m) (.int (j : Nat)) d h = some (h.set m (.lst (xs.set j d))) := by
  unfold setD
  dsimp only
  rw [e]
  dsimp only
  unfold ixN
  rw [if_pos (by omega), if_pos (by omega)]
  rfl
theorem modN (z : Int) {m : Nat} (hm : 0 < m) : ∃ j : Nat, z % (m : Int) = (j : Int) ∧ j < m := by
  have a := Int.emod_nonneg z (show (m : Int) ≠ 0 by omega)
  have b := Int.emod_lt_of_pos z (show (0 : Int) < m by omega)
  exact ⟨(z % (m : Int)).toNat, by omega, by omega⟩
theorem changed_ok (hn : 1 < n) (ws : List (List Nat)) (pos : 0 < ws.length) (hl : ws.length ≤ 5000) (ds : List Int) {ra rd : Nat} (e1 : h[ra]? = some (.lst (ws.map .str))) (e2 : h[rd]? = some (.lst (ds.map .int))) (dig : ∀ d ∈ ds, 0 ≤ d ∧ d < 60) :
    ∃ vs : List (List Nat), vs.length = ws.length ∧ callF g n .l_changed [.ref ra, .ref rd] h = .ok (.ref h.length) (h ++ [.lst (vs.map .str)]) := by
  obtain ⟨n, rfl⟩ : ∃ m, n = m + 1 := ⟨n - 1, by omega⟩
  show ∃ vs : List (List Nat), vs.length = ws.length ∧ runF 9 (b_l_changed (callF g n) g) [.ref ra, .ref rd] h = _
  have hat : ∀ (k : Int) (l : Hst), 0 ≤ k → callF g n .l_at [.ref rd, .int k] (h ++ l) = .ok (.int (atZ ds k)) (h ++ l) := fun k l hk => at_ok (by omega) ds k hk (get_old e2)
  have bnd : ∀ k : Int, 0 ≤ atZ ds k ∧ atZ ds k < 60 := fun k => by
    rcases atZ_mem (xs := ds) (k := k) with q | q
    · exact dig _ q
    · rw [q]; decide
  obtain ⟨mn, hmn⟩ : ∃ mn : Nat, 1 + atZ ds 0 % 2 = (mn : Int) := ⟨(1 + atZ ds 0 % 2).toNat, by omega⟩
  obtain ⟨M, hM⟩ : ∃ M : List (List Nat), [[113], [118, 48], [], [88], [49, 120], [97, 50, 51, 52, 53, 54, 55, 56], [97, 50, 51, 52, 53, 54, 55, 56, 57], [120, 32, 121], [113, 95], [48]] = M := ⟨_, rfl⟩
  have lM : M.length = 10 := by rw [← hM]; rfl
  have apM : ([D.str [113], .str [118, 48], .str [], .str [88], .str [49, 120], .str [97, 50, 51, 52, 53, 54, 55, 56], .str [97, 50, 51, 52, 53, 54, 55, 56, 57], .str [120, 32, 121], .str [113, 95], .str [48]] : List D) = M.map .str := by rw [← hM]; rfl
  obtain ⟨en1, h1, l1, x3, x4, x5, x6, x7, x8, vs, l, q1, q2, lv⟩ := forL_end (chk := .none) (g := gNm 3) (b := y_l_changed_1 (callF g n) g) (rngD 0 mn)
    (fun i en h' => ∃ (x3 x4 x5 x6 x7 x8 : Option D) (vs : List (List Nat)) (l : Hst), en = [some (.ref ra), some (.ref rd), some (.ref h.length), x3, x4, x5, x6, x7, x8] ∧ h' = h ++ .lst (vs.map .str) :: l ∧ vs.length = ws.length)
    [some (.ref ra), some (.ref rd), some (.ref h.length), none, none, none, none, none, none] (h ++ [.lst (ws.map .str)]) ⟨_, _, _, _, _, _, ws, [], rfl, rfl, rfl⟩ (fun _ _ _ _ _ => trivial)
    (fun i x en h' hx ⟨x3, x4, x5, x6, x7, x8, vs, l, q1, q2, lv⟩ => by
      obtain ⟨hi, rfl⟩ := range_get hx
      subst q1
      rw [q2]
      refine ⟨_, rfl, ?_⟩
      obtain ⟨L, hL⟩ : ∃ L : Hst, l ++ [.lst (M.map .str), .lst (vs.map .str ++ M.map .str)] = L := ⟨_, rfl⟩
      have s4 : (sSet 4 (vB addD (vVar 2) (vLst (aCons (vC (.str [113])) (aCons (vC (.str [118, 48])) (aCons (vC (.str [])) (aCons (vC (.str [88])) (aCons (vC (.str [49, 120])) (aCons (vC (.str [97, 50, 51, 52, 53, 54, 55, 56])) (aCons (vC (.str [97, 50, 51, 52, 53, 54, 55, 56, 57])) (aCons (vC (.str [120, 32, 121])) (aCons (vC (.str [113, 95])) (aCons (vC (.str [48])) (aNil))))))))))))))
          [some (.ref ra), some (.ref rd), some (.ref h.length), some (.int (i : Int)), x4, x5, x6, x7, x8] (h ++ O.lst (vs.map .str) :: l) = .nx [some (.ref ra), some (.ref rd), some (.ref h.length), some (.int (i : Int)), some (.ref (h.length + (l.length + 2))), x5, x6, x7, x8] (h ++ O.lst (vs.map .str) :: L) := by
        have a1 : addD (.ref h.length) (.ref (h.length + (l.length + 1))) (h ++ O.lst (vs.map .str) :: (l ++ [.lst (M.map .str)])) = .ok (.ref (h.length + (l.length + 2))) (h ++ O.lst (vs.map .str) :: L) := by
          rw [addD_ref (xs := vs.map .str) (ys := M.map .str) (by rw [get_app]; rfl) (by rw [get_app2]; simp) (by simp; omega), ← hL]; simp
        simp [apM, lM, a1]
      have eF : ∀ us : List (List Nat), (h ++ O.lst (us.map .str) :: L)[h.length]? = some (.lst (us.map .str)) := fun us => by rw [get_app]; rfl
      have eM : (h ++ O.lst (vs.map .str) :: L)[h.length + (l.length + 2)]? = some (.lst (vs.map .str ++ M.map .str)) := by rw [get_app2, ← hL]; simp
      have lnF : lenD [.ref h.length] (h ++ O.lst (vs.map .str) :: L) = .ok (.int vs.length) (h ++ O.lst (vs.map .str) :: L) := by rw [lenD_lst (eF vs)]; simp
      have lnM : lenD [.ref (h.length + (l.length + 2))] (h ++ O.lst (vs.map .str) :: L) = .ok (.int ((vs.length + 10 : Nat) : Int)) (h ++ O.lst (vs.map .str) :: L) := by rw [lenD_lst eM]; simp [lM]
      obtain ⟨c, hc⟩ : ∃ c : Int, 5 * (i : Int) = c := ⟨_, rfl⟩
      have i1 : mulD (.int 5) (.int (i : Int)) (h ++ O.lst (vs.map .str) :: L) = .ok (.int c) (h ++ O.lst (vs.map .str) :: L) := by rw [← hc]; exact mulD_r _ _ _ (by omega) (by omega)
      have c0 : 0 ≤ c := by omega
      have g1 := hat (1 + c) (O.lst (vs.map .str) :: L) (by omega)
      have g2 := hat (2 + c) (O.lst (vs.map .str) :: L) (by omega)
      have g3 := hat (3 + c) (O.lst (vs.map .str) :: L) (by omega)
      have g4 := hat (4 + c) (O.lst (vs.map .str) :: L) (by omega)
      have g5 := hat (5 + c) (O.lst (vs.map .str) :: L) (by omega)
      have b2 := bnd (2 + c)
      have b4 := bnd (4 + c)
      obtain ⟨u1, hu1⟩ : ∃ u, atZ ds (1 + c) = u := ⟨_, rfl⟩
      obtain ⟨u2, hu2⟩ : ∃ u, atZ ds (2 + c) = u := ⟨_, rfl⟩
      obtain ⟨u3, hu3⟩ : ∃ u, atZ ds (3 + c) = u := ⟨_, rfl⟩
      obtain ⟨u4, hu4⟩ : ∃ u, atZ ds (4 + c) = u := ⟨_, rfl⟩
      obtain ⟨u5, hu5⟩ : ∃ u, atZ ds (5 + c) = u := ⟨_, rfl⟩
      rw [hu1] at g1
      rw [hu2] at g2 b2
      rw [hu3] at g3
      rw [hu4] at g4 b4
      rw [hu5] at g5
      have m2 : mulD (.int 60) (.int u2) (h ++ O.lst (vs.map .str) :: L) = .ok (.int (60 * u2)) (h ++ O.lst (vs.map .str) :: L) := mulD_r _ _ _ (by omega) (by omega)
      have m4 : mulD (.int 60) (.int u4) (h ++ O.lst (vs.map .str) :: L) = .ok (.int (60 * u4)) (h ++ O.lst (vs.map .str) :: L) := mulD_r _ _ _ (by omega) (by omega)
      obtain ⟨j1, hj1, lj1⟩ := modN (60 * u2 + u3) (show 0 < vs.length by omega)
      obtain ⟨j2, hj2, lj2⟩ := modN (60 * u4 + u5) (show 0 < vs.length by omega)
      obtain ⟨j3, hj3, lj3⟩ := modN (60 * u4 + u5) (show 0 < vs.length + 10 by omega)
      have md1 : modD (.int (60 * u2 + u3)) (.int vs.length) (h ++ O.lst (vs.map .str) :: L) = .ok (.int j1) (h ++ O.lst (vs.map .str) :: L) := by rw [modD_int _ _ _ (by omega), hj1]
      have md2 : modD (.int (60 * u4 + u5)) (.int vs.length) (h ++ O.lst (vs.map .str) :: L) = .ok (.int j2) (h ++ O.lst (vs.map .str) :: L) := by rw [modD_int _ _ _ (by omega), hj2]
      have md3 : modD (.int (60 * u4 + u5)) (.int ((vs.length + 10 : Nat) : Int)) (h ++ O.lst (vs.map .str) :: L) = .ok (.int j3) (h ++ O.lst (vs.map .str) :: L) := by rw [modD_int _ _ _ (by omega), hj3]
      have x1 : ixD (.ref h.length) (.int (j1 : Int)) (h ++ O.lst (vs.map .str) :: L) = .ok (.str vs[j1]) (h ++ O.lst (vs.map .str) :: L) := ixD_lst (eF vs) (by rw [atI_nat]; simp [lj1])
      have x2 : ixD (.ref h.length) (.int (j2 : Int)) (h ++ O.lst (vs.map .str) :: L) = .ok (.str vs[j2]) (h ++ O.lst (vs.map .str) :: L) := ixD_lst (eF vs) (by rw [atI_nat]; simp [lj2])
      obtain ⟨w3, hw3⟩ : ∃ w3, (vs ++ M)[j3]? = some w3 := ⟨_, List.getElem?_eq_getElem (by rw [List.length_append, lM]; exact lj3)⟩
      have x3' : ixD (.ref (h.length + (l.length + 2))) (.int (j3 : Int)) (h ++ O.lst (vs.map .str) :: L) = .ok (.str w3) (h ++ O.lst (vs.map .str) :: L) := ixD_lst eM (by rw [atI_nat, ← List.map_append, List.getElem?_map, hw3]; rfl)
      have st : ∀ (us : List (List Nat)) (j : Nat) (w : List Nat), j < us.length → setD (.ref h.length) (.int (j : Int)) (.str w) (h ++ O.lst (us.map .str) :: L) = some (h ++ O.lst ((us.set j w).map .str) :: L) := fun us j w hj => by
        rw [setL (eF us) (by simpa using hj)]; simp
      have s5 : (sSet 5 (vB modD (vCall intC (aCons (vF 2 (callF g n .l_at) (aCons (vVar 1) (aCons (vB addD (vC (.int 1)) (vB mulD (vC (.int 5)) (vVar 3))) (aNil)))) (aNil))) (vC (.int 3)))) [some (.ref ra), some (.ref rd), some (.ref h.length), some (.int (i : Int)), some (.ref (h.length + (l.length + 2))), x5, x6, x7, x8] (h ++ O.lst (vs.map .str) :: L) = .nx [some (.ref ra), some (.ref rd), some (.ref h.length), some (.int (i : Int)), some (.ref (h.length + (l.length + 2))), some (.int (u1 % 3)), x6, x7, x8] (h ++ O.lst (vs.map .str) :: L) := by
        simp only [sSet_ap, vB_ap, vCall_ap, aCons_ap, aNil_ap, vF_ap, vVar_ap, vC_ap, bind_ok, bindS_ok, List.getElem?_cons_succ, List.getElem?_cons_zero, List.set_cons_succ, List.set_cons_zero, List.length_cons, List.length_nil, Nat.reduceAdd, if_true, i1, addD_int, g1, intC_int, modD_int _ _ _ (show (0 : Int) < 3 by decide)]
      have s6 : (sSet 6 (vB modD (vCall intC (aCons (vB addD (vB mulD (vC (.int 60)) (vF 2 (callF g n .l_at) (aCons (vVar 1) (aCons (vB addD (vC (.int 2)) (vB mulD (vC (.int 5)) (vVar 3))) (aNil))))) (vF 2 (callF g n .l_at) (aCons (vVar 1) (aCons (vB addD (vC (.int 3)) (vB mulD (vC (.int 5)) (vVar 3))) (aNil))))) (aNil))) (vCall lenD (aCons (vVar 2) (aNil))))) [some (.ref ra), some (.ref rd), some (.ref h.length), some (.int (i : Int)), some (.ref (h.length + (l.length + 2))), some (.int (u1 % 3)), x6, x7, x8] (h ++ O.lst (vs.map .str) :: L) = .nx [some (.ref ra), some (.ref rd), some (.ref h.length), some (.int (i : Int)), some (.ref (h.length + (l.length + 2))), some (.int (u1 % 3)), some (.int j1), x7, x8] (h ++ O.lst (vs.map .str) :: L) := by
        simp only [sSet_ap, vB_ap, vCall_ap, aCons_ap, aNil_ap, vF_ap, vVar_ap, vC_ap, bind_ok, bindS_ok, List.getElem?_cons_succ, List.getElem?_cons_zero, List.set_cons_succ, List.set_cons_zero, List.length_cons, List.length_nil, Nat.reduceAdd, if_true, i1, addD_int, g2, g3, m2, intC_int, lnF, md1]
      have s7 : (sSet 7 (vCall intC (aCons (vB addD (vB mulD (vC (.int 60)) (vF 2 (callF g n .l_at) (aCons (vVar 1) (aCons (vB addD (vC (.int 4)) (vB mulD (vC (.int 5)) (vVar 3))) (aNil))))) (vF 2 (callF g n .l_at) (aCons (vVar 1) (aCons (vB addD (vC (.int 5)) (vB mulD (vC (.int 5)) (vVar 3))) (aNil))))) (aNil)))) [some (.ref ra), some (.ref rd), some (.ref h.length), some (.int (i : Int)), some (.ref (h.length + (l.length + 2))), some (.int (u1 % 3)), some (.int j1), x7, x8] (h ++ O.lst (vs.map .str) :: L) = .nx [some (.ref ra), some (.ref rd), some (.ref h.length), some (.int (i : Int)), some (.ref (h.length + (l.length + 2))), some (.int (u1 % 3)), some (.int j1), some (.int (60 * u4 + u5)), x8] (h ++ O.lst (vs.map .str) :: L) := by
        simp only [sSet_ap, vB_ap, vCall_ap, aCons_ap, aNil_ap, vF_ap, vVar_ap, vC_ap, bind_ok, bindS_ok, List.getElem?_cons_succ, List.getElem?_cons_zero, List.set_cons_succ, List.set_cons_zero, List.length_cons, List.length_nil, Nat.reduceAdd, if_true, i1, addD_int, g4, g5, m4, intC_int]
      show (y_l_changed_1 (callF g n) g [some (.ref ra), some (.ref rd), some (.ref h.length), some (.int (0 + (i : Int))), x4, x5, x6, x7, x8] (h ++ O.lst (vs.map .str) :: l)).sat _ _
      rw [Int.zero_add]
      unfold y_l_changed_1
      simp only [sSeq_ap, s4, s5, s6, s7, thenS_nx]
      by_cases q : u1 % 3 = 2
      · have st1 := st vs j1 vs[j2] lj1
        have st2 := st (vs.set j1 vs[j2]) j2 vs[j1] (by rw [List.length_set]; exact lj2)
        simp only [sIf_ap, tV_ap, vB_ap, vVar_ap, vC_ap, List.getElem?_cons_succ, List.getElem?_cons_zero, bind_ok, eqD_int, q, asB_bl, bindS_ok, show ((2 : Int) == 2) = true from rfl, sSeq_ap, sSet_ap, vCall_ap, aCons_ap, aNil_ap, lnF, md2, thenS_nx, x1, x2, sIx_ap, st1, st2, List.set_cons_succ, List.set_cons_zero]
        exact ⟨_, _, _, _, _, _, _, _, rfl, rfl, by simp [lv]⟩
      · have q2 : (u1 % 3 == 2) = false := by simpa using q
        have st1 := st vs j1 w3 lj1
        simp only [sIf_ap, tV_ap, vB_ap, vVar_ap, vC_ap, List.getElem?_cons_succ, List.getElem?_cons_zero, bind_ok, eqD_int, q2, asB_bl, bindS_ok, vCall_ap, aCons_ap, aNil_ap, lnM, md3, x3', sIx_ap, st1]
        exact ⟨_, _, _, _, _, _, _, _, rfl, rfl, by simp [lv]⟩)
  subst q1
  refine ⟨vs, lv, ?_⟩
  rw [runF_eq]
  have a0 := hat 0 [.lst (ws.map .str)] (by decide)
  rw [q2] at l1
  have rg := rng1K_nat (j := mn) (h ++ [O.lst (ws.map D.str)]) (by omega)
  simp [b_l_changed, listC_ref e1, a0, hmn, rg, l1]
  exact finish_new h (.lst _) l (noRefs_str _)
theorem name_ok (g : Nat) (hn : 0 < n) (style : Int) (k : Nat) (hk : k ≤ 69) (h : Hst) : callF g n .l_name [.int k, .int style] h = .ok (.str (nameT style k)) h := by
  obtain ⟨n, rfl⟩ : ∃ m, n = m + 1 := ⟨n - 1, by omega⟩
  show runF 2 (b_l_name (callF g n) g) _ h = _
  rw [runF_eq]
  have hst : ∀ hh, strC [.int (k : Int)] hh = .ok (.str (decI k)) hh := fun hh => strC_nat hh (by omega)
  have hst2 : ∀ hh, strC [.int (70 - (k : Int))] hh = .ok (.str (decI (70 - (k : Int)))) hh := fun hh => strC_int hh (by omega)
  have hl1 : (decI (k : Int)).length ≤ 62 := decI_lenN (by omega)
  have hl2 : (decI (70 - (k : Int))).length ≤ 62 := decI_len (by omega)
  by_cases q : style % 5 = 3
  · have a : addD (.str [122, 122]) (.str (decI (70 - (k : Int)))) h = .ok (.str ([122, 122] ++ decI (70 - (k : Int)))) h := addD_str h (by simp; omega)
    simp [b_l_name, q, hst2, a, nameT]
  · have q2 : (style % 5 == 3) = false := by simpa using q
    obtain ⟨s, hs3, hp, ls⟩ := pre_ok style
    have at2 : ixD (.ref h.length) (.int (style % 5)) (h ++ [.lst [.str [110], .str [118], .str [113, 55], .str [122, 122], .str [108, 111, 110, 103]]]) = .ok (.str s) (h ++ [.lst [.str [110], .str [118], .str [113, 55], .str [122, 122], .str [108, 111, 110, 103]]]) := by
      refine ixD_lst (s := [[110], [118], [113, 55], [122, 122], [108, 111, 110, 103]].map D.str) (by rw [get_app]; rfl) ?_
      rw [atI_map, hs3]; rfl
    have a : ∀ hh, addD (.str s) (.str (decI (k : Int))) hh = .ok (.str (s ++ decI (k : Int))) hh := fun hh => addD_str hh (by omega)
    simp [b_l_name, q, q2, at2, hst, a, nameT, hp]
    exact finish_drop _ _ _ rfl
theorem term_ok (g : Nat) (hn : 1 < n) (style : Int) (ds : List Int) (hl : ds.length ≤ 20) (dig : ∀ d ∈ ds, 0 ≤ d) (h : Hst) {dr : Nat} (e : h[dr]? = some (.lst (ds.map .int))) :
    ∃ (t : Tm) (r : Nat) (h' : Hst), callF g n .l_term [.ref dr, .int style] h = .ok (.tup [t.d, .ref r]) h' ∧ t.sub.length ≤ 41 ∧ Gw h h' := by
  obtain ⟨n, rfl⟩ : ∃ m, n = m + 1 := ⟨n - 1, by omega⟩
  obtain ⟨t, r, h', a1, a2, a3, a4, a5, a6, a7, a8⟩ := TA.term_run (callF g n .l_name) (fun k => nameT style k) (fun k h hk => name_ok g (by omega) style k (by omega) h) ds (fun i j _ hij hj e => by
    have := nameT_inj (style := style) (a := i) (b := j) (by omega) (by omega) (by omega) (by omega) e
    omega) (by omega) dig h e
  exact ⟨t, r, h', a1, by omega, a8⟩
theorem toPys_tms (h : Hst) (k : Nat) : ∀ its : List Tm, toPys h k (its.map Tm.d) = some (its.map Tm.py)
  | [] => by simp [toPys]
  | t :: its => by rw [List.map_cons, toPys, toPy_tm, toPys_tms h k its]; rfl
theorem pys_depth : ∀ its : List Tm, PyData.depthAll (its.map Tm.py) ≤ (its.flatMap Tm.sub).length
  | [] => by simp [PyData.depthAll]
  | t :: its => by
    have h1 := pys_depth its
    have h2 := py_depth t
    have h3 := high_le t
    rw [List.map_cons, List.flatMap_cons, List.length_append, PyData.depthAll]
    omega
theorem ne_tms {a b : Nat} {its : List Tm} {h : Hst} (ha : h[a]? = some (.lst (its.map Tm.d))) (hb : h[b]? = some (.lst [])) (hd : (its.flatMap Tm.sub).length ≤ 60) : eqB (.ref a) (.ref b) h = some its.isEmpty := by
  rw [eqB_nil ha hb (toPys_tms h 63 its) (by have := pys_depth its; omega)]
  cases its <;> rfl
theorem addU (k : Nat) (hk : k < 1000000000000) (h : Hst) : addD (.str [117]) (.str (decI k)) h = .ok (.str (117 :: decI k)) h := by
  have := decI_lenN hk
  rw [addD_str _ (by simp; omega)]; rfl
theorem chain_ok (hn : 0 < n) (nodes bound : Nat) (ln : Bool) (h1 : 1 ≤ nodes) (h2 : nodes ≤ 99) (h3 : bound ≤ nodes) (h : Hst) : ∃ t : Tm, callF g n .l_chain [.int nodes, .int bound, .bl ln] h = .ok t.d h ∧ t.high ≤ 101 ∧ t.sub.length ≤ 400 := by
  obtain ⟨n, rfl⟩ : ∃ m, n = m + 1 := ⟨n - 1, by omega⟩
  show ∃ t : Tm, runF 5 (b_l_chain (callF g n) g) _ h = _ ∧ _
  have d0 : (Tm.nm [117, 48]).d = .tup [.str [110, 97, 109, 101], .str [117, 48]] := rfl
  obtain ⟨en1, g1, l1, t, x4, q1, q2, q3, q4⟩ := forL_end (chk := .none) (g := gNm 4) (b := y_l_chain_1 (callF g n) g) (rngD 1 (nodes - bound))
    (fun i en h' => ∃ (t : Tm) (x4 : Option D), en = [some (.int nodes), some (.int bound), some (.bl ln), some t.d, x4] ∧ h' = h ∧ t.high ≤ i + 1 ∧ t.sub.length ≤ 2 * i + 1)
    [some (.int nodes), some (.int bound), some (.bl ln), some (Tm.nm [117, 48]).d, none] h ⟨_, _, rfl, rfl, by simp [Tm.high], by simp [Tm.sub]⟩ (fun _ _ _ _ _ => trivial)
    (fun i x en h' hx ⟨t, x4, q1, q2, q3, q4⟩ => by
      obtain ⟨hi, rfl⟩ := range_get hx
      subst q1
      rw [q2]
      refine ⟨_, rfl, ?_⟩
      obtain ⟨k, hk, hk2⟩ : ∃ k : Nat, (1 : Int) + (i : Int) = (k : Int) ∧ k ≤ 100 := ⟨i + 1, by omega, by omega⟩
      rw [hk]
      have st : ∀ hh, strC [.int (k : Int)] hh = .ok (.str (decI k)) hh := fun hh => strC_nat hh (by omega)
      have ad := addU k (by omega)
      show (y_l_chain_1 (callF g n) g [some (.int nodes), some (.int bound), some (.bl ln), some t.d, some (.int k)] h).sat _ _
      cases ln with
      | true =>
        have y : y_l_chain_1 (callF g n) g [some (.int nodes), some (.int bound), some (.bl true), some t.d, some (.int k)] h = .nx [some (.int nodes), some (.int bound), some (.bl true), some (Tm.ap (.nm (117 :: decI k)) t).d, some (.int k)] h := by simp [y_l_chain_1, st, ad, Tm.d]
        rw [y]
        exact ⟨_, _, rfl, rfl, by simp [Tm.high]; omega, by simp [Tm.sub]; omega⟩
      | false =>
        have y : y_l_chain_1 (callF g n) g [some (.int nodes), some (.int bound), some (.bl false), some t.d, some (.int k)] h = .nx [some (.int nodes), some (.int bound), some (.bl false), some (Tm.ap t (.nm (117 :: decI k))).d, some (.int k)] h := by simp [y_l_chain_1, st, ad, Tm.d]
        rw [y]
        exact ⟨_, _, rfl, rfl, by simp [Tm.high]; omega, by simp [Tm.sub]; omega⟩)
  rw [rngD_len] at q3 q4
  rw [q1, q2] at l1
  obtain ⟨en2, g2, l2, t2, y4, r1, r2, r3, r4⟩ := forL_end (chk := .none) (g := gNm 4) (b := y_l_chain_2 (callF g n) g) (rngD 0 bound)
    (fun i en h' => ∃ (t2 : Tm) (x4 : Option D), en = [some (.int nodes), some (.int bound), some (.bl ln), some t2.d, x4] ∧ h' = h ∧ t2.high ≤ t.high + i ∧ t2.sub.length ≤ t.sub.length + i)
    [some (.int nodes), some (.int bound), some (.bl ln), some t.d, x4] h ⟨t, _, rfl, rfl, Nat.le_refl _, Nat.le_refl _⟩ (fun _ _ _ _ _ => trivial)
    (fun i x en h' hx ⟨t2, x4, q1, q2, q3, q4⟩ => by
      obtain ⟨hi, rfl⟩ := range_get hx
      subst q1
      rw [q2]
      refine ⟨_, rfl, ?_⟩
      have st : ∀ hh, strC [.int (i : Int)] hh = .ok (.str (decI i)) hh := fun hh => strC_nat hh (by omega)
      have ad := addU i (by omega)
      show (y_l_chain_2 (callF g n) g [some (.int nodes), some (.int bound), some (.bl ln), some t2.d, some (.int (0 + (i : Int)))] h).sat _ _
      have y : y_l_chain_2 (callF g n) g [some (.int nodes), some (.int bound), some (.bl ln), some t2.d, some (.int (0 + (i : Int)))] h = .nx [some (.int nodes), some (.int bound), some (.bl ln), some (Tm.bd (117 :: decI i) t2).d, some (.int (i : Int))] h := by simp [y_l_chain_2, st, ad, Tm.d]
      rw [y]
      exact ⟨_, _, rfl, rfl, by simp [Tm.high]; omega, by simp [Tm.sub]; omega⟩)
  rw [rngD_len] at r3 r4
  rw [r1, r2] at l2
  refine ⟨t2, ?_, by omega, by omega⟩
  rw [runF_eq]
  have rg := rng2K_int (i := 1) (j := (nodes : Int) + 1 - bound) h (by omega) (by omega) (by omega) (by omega)
  have to : ((nodes : Int) + 1 - bound - 1).toNat = nodes - bound := by omega
  rw [to] at rg
  have rg2 := rng1K_nat (j := bound) h (by omega)
  rw [d0] at l1
  simp [b_l_chain, rg, l1, rg2, l2]
/-! any nest -/
section
variable {A B C : List D} {its : List Tm} {l : Hst}
theorem pile_at : (h ++ O.lst A :: O.lst B :: O.lst C :: O.lst (its.map Tm.d) :: l)[h.length + 3]? = some (.lst (its.map Tm.d)) := by rw [get_app2]; rfl
theorem pile_push (t : Tm) (hl : its.length < 100000) : appendM (.ref (h.length + 3)) [t.d] (h ++ O.lst A :: O.lst B :: O.lst C :: O.lst (its.map Tm.d) :: l) = .ok .non (h ++ O.lst A :: O.lst B :: O.lst C :: O.lst ((its ++ [t]).map Tm.d) :: l) := by
  rw [appendM_ref _ pile_at (by simp; omega)]
  simp
theorem pile_pop {t : Tm} : popM (.ref (h.length + 3)) [] (h ++ O.lst A :: O.lst B :: O.lst C :: O.lst ((its ++ [t]).map Tm.d) :: l) = .ok t.d (h ++ O.lst A :: O.lst B :: O.lst C :: O.lst (its.map Tm.d) :: l) := by
  rw [popM_last (xs := its.map Tm.d) (x := t.d) (by rw [pile_at]; simp)]
  simp
theorem pile_ty : tyD (.ref (h.length + 3)) (h ++ O.lst A :: O.lst B :: O.lst C :: O.lst (its.map Tm.d) :: l) = some .list := tyD_lst pile_at
theorem pile_len : lenD [.ref (h.length + 3)] (h ++ O.lst A :: O.lst B :: O.lst C :: O.lst (its.map Tm.d) :: l) = .ok (.int its.length) (h ++ O.lst A :: O.lst B :: O.lst C :: O.lst (its.map Tm.d) :: l) := by rw [lenD_lst pile_at]; simp
theorem two_last (h2 : 2 ≤ its.length) : ∃ i0 p q, its = i0 ++ [p, q] := by
  refine ⟨its.take (its.length - 2), its[its.length - 2], its[its.length - 1], ?_⟩
  have e : its.drop (its.length - 2) = [its[its.length - 2], its[its.length - 1]] := by
    rw [List.drop_eq_getElem_cons (by omega), List.drop_eq_getElem_cons (by omega), List.drop_eq_nil_of_le (by omega)]
    congr 3
    omega
  rw [← e, List.take_append_drop]
theorem its_le : its.length ≤ (its.flatMap Tm.sub).length := by
  induction its with
  | nil => simp
  | cons t its ih => have := t.sub_pos; simp only [List.flatMap_cons, List.length_append, List.length_cons]; omega
end
theorem nest_ok (hn : 0 < n) (ds : List Int) (hl : ds.length ≤ 20) (dig : ∀ d ∈ ds, 0 ≤ d ∧ d < 60) (h : Hst) {dr : Nat} (e : h[dr]? = some (.lst (ds.map .int))) : ∃ t : Tm, callF g n .l_nest [.ref dr] h = .ok t.d h ∧ t.sub.length ≤ 41 := by
  obtain ⟨n, rfl⟩ : ∃ m, n = m + 1 := ⟨n - 1, by omega⟩
  show ∃ t : Tm, runF 8 (b_l_nest (callF g n) g) _ h = _ ∧ _
  obtain ⟨A, hA⟩ : ∃ A : List (List Nat), [[120], [121], [122], [120, 49], [118, 48], [118, 49], [97, 50, 51, 52, 53, 54, 55, 56], [98], [99], [120], [121], [], [88], [49, 120], [97, 50, 51, 52, 53, 54, 55, 56, 57], [120, 32, 121]] = A := ⟨_, rfl⟩
  obtain ⟨B, hB⟩ : ∃ B : List (List Nat), [[120, 95], [120, 89], [32, 120], [122, 57]] = B := ⟨_, rfl⟩
  have lA : A.length = 16 := by rw [← hA]; rfl
  have lB : B.length = 4 := by rw [← hB]; rfl
  obtain ⟨C, hC⟩ : ∃ C : List (List Nat), A ++ B = C := ⟨_, rfl⟩
  have lC : C.length = 20 := by rw [← hC, List.length_append, lA, lB]
  have step1 : ∀ (its : List Tm) (l : Hst) (d : Int) (x4 x5 x6 x7 : Option D), 0 ≤ d → d < 60 → (its.flatMap Tm.sub).length ≤ 25 → ∃ (its' : List Tm) (l' : Hst) (y4 y5 y6 : Option D),
      y_l_nest_1 (callF g n) g [some (.ref dr), some (.ref (h.length + 2)), some (.ref (h.length + 3)), some (.int d), x4, x5, x6, x7] (h ++ O.lst (A.map .str) :: O.lst (B.map .str) :: O.lst (C.map .str) :: O.lst (its.map Tm.d) :: l) =
      .nx [some (.ref dr), some (.ref (h.length + 2)), some (.ref (h.length + 3)), some (.int d), y4, y5, y6, x7] (h ++ O.lst (A.map .str) :: O.lst (B.map .str) :: O.lst (C.map .str) :: O.lst (its'.map Tm.d) :: l') ∧ (its'.flatMap Tm.sub).length ≤ (its.flatMap Tm.sub).length + 1 := by
    intro its l d x4 x5 x6 x7 d0 d1 sz
    have il := its_le (its := its)
    obtain ⟨w, hw⟩ : ∃ w, C[(d / 3).toNat]? = some w := ⟨_, List.getElem?_eq_getElem (by omega)⟩
    have eC : ∀ l : Hst, (h ++ O.lst (A.map .str) :: O.lst (B.map .str) :: O.lst (C.map .str) :: l)[h.length + 2]? = some (.lst (C.map .str)) := fun l => by rw [get_app2]; rfl
    have ixc : ∀ l : Hst, ixD (.ref (h.length + 2)) (.int (d / 3)) (h ++ O.lst (A.map .str) :: O.lst (B.map .str) :: O.lst (C.map .str) :: l) = .ok (.str w) (h ++ O.lst (A.map .str) :: O.lst (B.map .str) :: O.lst (C.map .str) :: l) := fun l => ixD_lst (eC l) (by
      have := atI_nat (C.map D.str) (d / 3).toNat
      rw [Int.toNat_of_nonneg (by omega), List.getElem?_map, hw] at this
      exact this)
    have m3 : ∀ hh, modD (.int d) (.int 3) hh = .ok (.int (d % 3)) hh := fun hh => modD_int _ _ _ (by decide)
    have nameCase : ∀ l, ∃ (its' : List Tm) (l' : Hst), (sExpr (vM .list appendM (vVar 2) (aCons (vTup (aCons (vC (.str [110, 97, 109, 101])) (aCons (vVar 4) (aNil)))) (aNil)))) [some (.ref dr), some (.ref (h.length + 2)), some (.ref (h.length + 3)), some (.int d), some (.str w), x5, x6, x7] (h ++ O.lst (A.map .str) :: O.lst (B.map .str) :: O.lst (C.map .str) :: O.lst (its.map Tm.d) :: l) =
        .nx [some (.ref dr), some (.ref (h.length + 2)), some (.ref (h.length + 3)), some (.int d), some (.str w), x5, x6, x7] (h ++ O.lst (A.map .str) :: O.lst (B.map .str) :: O.lst (C.map .str) :: O.lst (its'.map Tm.d) :: l') ∧ (its'.flatMap Tm.sub).length ≤ (its.flatMap Tm.sub).length + 1 := fun l => by
      refine ⟨its ++ [.nm w], l, ?_, by simp [Tm.sub]⟩
      have p := pile_push (h := h) (A := A.map .str) (B := B.map .str) (C := C.map .str) (l := l) (its := its) (.nm w) (by omega)
      rw [show (Tm.nm w).d = .tup [.str [110, 97, 109, 101], .str w] from rfl] at p
      simp only [sExpr_ap, vM_ap, vVar_ap, List.getElem?_cons_succ, List.getElem?_cons_zero, bind_ok, pile_ty, if_true, aCons_ap, vTup_ap, vC_ap, aNil_ap, List.length_cons, List.length_nil, Nat.reduceAdd, Nat.reduceLeDiff, p, bindS_ok]
    unfold y_l_nest_1
    have s4 : (sSet 4 (vB ixD (vVar 1) (vB divD (vVar 3) (vC (.int 3))))) [some (.ref dr), some (.ref (h.length + 2)), some (.ref (h.length + 3)), some (.int d), x4, x5, x6, x7] (h ++ O.lst (A.map .str) :: O.lst (B.map .str) :: O.lst (C.map .str) :: O.lst (its.map Tm.d) :: l) = .nx [some (.ref dr), some (.ref (h.length + 2)), some (.ref (h.length + 3)), some (.int d), some (.str w), x5, x6, x7] (h ++ O.lst (A.map .str) :: O.lst (B.map .str) :: O.lst (C.map .str) :: O.lst (its.map Tm.d) :: l) := by
      simp [ixc]
    rw [sSeq_ap, s4, thenS_nx]
    by_cases c2 : d % 3 = 2 ∧ 2 ≤ its.length
    · obtain ⟨i0, p, q, rfl⟩ := two_last c2.2
      refine ⟨i0 ++ [.ap p q], l, some (.str w), some q.d, some p.d, ?_, by simp [Tm.sub]; omega⟩
      have t1 : (tAndE (tV (vB eqD (vB modD (vVar 3) (vC (.int 3))) (vC (.int 2)))) (tV (vB geD (vCall lenD (aCons (vVar 2) (aNil))) (vC (.int 2))))) [some (.ref dr), some (.ref (h.length + 2)), some (.ref (h.length + 3)), some (.int d), some (.str w), x5, x6, x7] (h ++ O.lst (A.map .str) :: O.lst (B.map .str) :: O.lst (C.map .str) :: O.lst ((i0 ++ [p, q]).map Tm.d) :: l) = .ok true (h ++ O.lst (A.map .str) :: O.lst (B.map .str) :: O.lst (C.map .str) :: O.lst ((i0 ++ [p, q]).map Tm.d) :: l) := by
        have ge : (2 : Int) ≤ ((i0 ++ [p, q]).length : Nat) := by simp; omega
        simp only [tAndE_ap, tV_ap, vB_ap, vVar_ap, vC_ap, vCall_ap, aCons_ap, aNil_ap, List.getElem?_cons_succ, List.getElem?_cons_zero, bind_ok, m3, c2.1, eqD_int, asB_bl, show ((2 : Int) == 2) = true from rfl, pile_len, geD_int, ge, decide_true]
      rw [sIf_ap, t1]
      have e3 : i0 ++ [p, q] = (i0 ++ [p]) ++ [q] := by simp
      have p1 := pile_pop (h := h) (A := A.map .str) (B := B.map .str) (C := C.map .str) (l := l) (its := i0 ++ [p]) (t := q)
      have p2 := pile_pop (h := h) (A := A.map .str) (B := B.map .str) (C := C.map .str) (l := l) (its := i0) (t := p)
      have p3 := pile_push (h := h) (A := A.map .str) (B := B.map .str) (C := C.map .str) (l := l) (its := i0) (.ap p q) (Nat.lt_of_le_of_lt (show i0.length ≤ (i0 ++ [p, q]).length by simp) (by omega))
      rw [show (Tm.ap p q).d = .tup [.str [97, 112, 112, 108, 121], p.d, q.d] from rfl] at p3
      rw [e3]
      simp only [bindS_ok, sSeq_ap, sSet_ap, vM_ap, vVar_ap, aNil_ap, List.getElem?_cons_succ, List.getElem?_cons_zero, bind_ok, pile_ty, if_true, p1, thenS_nx, List.set_cons_succ, List.set_cons_zero, p2, sExpr_ap, aCons_ap, vTup_ap, vC_ap, List.length_cons, List.length_nil, Nat.reduceAdd, Nat.reduceLeDiff, p3]
    · have t1 : (tAndE (tV (vB eqD (vB modD (vVar 3) (vC (.int 3))) (vC (.int 2)))) (tV (vB geD (vCall lenD (aCons (vVar 2) (aNil))) (vC (.int 2))))) [some (.ref dr), some (.ref (h.length + 2)), some (.ref (h.length + 3)), some (.int d), some (.str w), x5, x6, x7] (h ++ O.lst (A.map .str) :: O.lst (B.map .str) :: O.lst (C.map .str) :: O.lst (its.map Tm.d) :: l) = .ok false (h ++ O.lst (A.map .str) :: O.lst (B.map .str) :: O.lst (C.map .str) :: O.lst (its.map Tm.d) :: l) := by
        by_cases q : d % 3 = 2
        · have ge : ¬ (2 : Int) ≤ its.length := fun z => c2 ⟨q, by omega⟩
          simp only [tAndE_ap, tV_ap, vB_ap, vVar_ap, vC_ap, vCall_ap, aCons_ap, aNil_ap, List.getElem?_cons_succ, List.getElem?_cons_zero, bind_ok, m3, q, eqD_int, asB_bl, show ((2 : Int) == 2) = true from rfl, pile_len, geD_int, ge, decide_false]
        · have q2 : (d % 3 == 2) = false := by simpa using q
          simp only [tAndE_ap, tV_ap, vB_ap, vVar_ap, vC_ap, List.getElem?_cons_succ, List.getElem?_cons_zero, bind_ok, m3, q2, eqD_int, asB_bl]
      rw [sIf_ap, t1]
      simp only [bindS_ok]
      rw [sIf_ap]
      have nE : neD (.ref (h.length + 3)) (.ref (h.length + (l.length + 4))) (h ++ O.lst (A.map .str) :: O.lst (B.map .str) :: O.lst (C.map .str) :: O.lst (its.map Tm.d) :: (l ++ [.lst []])) = .ok (.bl (!its.isEmpty)) (h ++ O.lst (A.map .str) :: O.lst (B.map .str) :: O.lst (C.map .str) :: O.lst (its.map Tm.d) :: (l ++ [.lst []])) :=
        neD_of (ne_tms pile_at (by rw [get_app2]; simp) (by omega))
      by_cases q : d % 3 = 1
      · have t2 : (tAndE (tV (vB eqD (vB modD (vVar 3) (vC (.int 3))) (vC (.int 1)))) (tV (vB neD (vVar 2) (vLst (aNil))))) [some (.ref dr), some (.ref (h.length + 2)), some (.ref (h.length + 3)), some (.int d), some (.str w), x5, x6, x7] (h ++ O.lst (A.map .str) :: O.lst (B.map .str) :: O.lst (C.map .str) :: O.lst (its.map Tm.d) :: l) = .ok (!its.isEmpty) (h ++ O.lst (A.map .str) :: O.lst (B.map .str) :: O.lst (C.map .str) :: O.lst (its.map Tm.d) :: (l ++ [.lst []])) := by
          simp [q, nE]
        rw [t2]
        simp only [bindS_ok]
        by_cases ei : its = []
        · obtain ⟨i', l', r1, r2⟩ := nameCase (l ++ [.lst []])
          have : (!its.isEmpty) = false := by rw [ei]; rfl
          rw [this]
          exact ⟨i', l', _, _, _, r1, r2⟩
        · obtain ⟨i0, q0, rfl⟩ : ∃ i0 q0, its = i0 ++ [q0] := ⟨its.dropLast, its.getLast ei, (List.dropLast_concat_getLast ei).symm⟩
          have : (!(i0 ++ [q0]).isEmpty) = true := by simp
          rw [this]
          have p1 := pile_pop (h := h) (A := A.map .str) (B := B.map .str) (C := C.map .str) (l := l ++ [.lst []]) (its := i0) (t := q0)
          have p3 := pile_push (h := h) (A := A.map .str) (B := B.map .str) (C := C.map .str) (l := l ++ [.lst []]) (its := i0) (.bd w q0) (Nat.lt_of_le_of_lt (show i0.length ≤ (i0 ++ [q0]).length by simp) (by omega))
          rw [show (Tm.bd w q0).d = .tup [.str [98, 105, 110, 100], .str w, q0.d] from rfl] at p3
          refine ⟨i0 ++ [.bd w q0], l ++ [.lst []], some (.str w), some q0.d, x6, ?_, by simp [Tm.sub]; omega⟩
          simp only [sSeq_ap, sSet_ap, vM_ap, vVar_ap, aNil_ap, List.getElem?_cons_succ, List.getElem?_cons_zero, bind_ok, bindS_ok, pile_ty, if_true, p1, thenS_nx, List.set_cons_succ, List.set_cons_zero, sExpr_ap, aCons_ap, vTup_ap, vC_ap, List.length_cons, List.length_nil, Nat.reduceAdd, Nat.reduceLeDiff, p3]
      · have t2 : (tAndE (tV (vB eqD (vB modD (vVar 3) (vC (.int 3))) (vC (.int 1)))) (tV (vB neD (vVar 2) (vLst (aNil))))) [some (.ref dr), some (.ref (h.length + 2)), some (.ref (h.length + 3)), some (.int d), some (.str w), x5, x6, x7] (h ++ O.lst (A.map .str) :: O.lst (B.map .str) :: O.lst (C.map .str) :: O.lst (its.map Tm.d) :: l) = .ok false (h ++ O.lst (A.map .str) :: O.lst (B.map .str) :: O.lst (C.map .str) :: O.lst (its.map Tm.d) :: l) := by
          have q2 : (d % 3 == 1) = false := by simpa using q
          simp only [tAndE_ap, tV_ap, vB_ap, vVar_ap, vC_ap, List.getElem?_cons_succ, List.getElem?_cons_zero, bind_ok, m3, q2, eqD_int, asB_bl]
        rw [t2]
        simp only [bindS_ok]
        obtain ⟨i', l', r1, r2⟩ := nameCase l
        exact ⟨i', l', _, _, _, r1, r2⟩
  -- the digits
  obtain ⟨en1, h1, l1, its, l, x3, x4, x5, x6, q1, q2, sz⟩ := forL_end (chk := .some (dr, ds.map .int)) (g := gNm 3) (b := y_l_nest_1 (callF g n) g) (ds.map .int)
    (fun i en h' => ∃ (its : List Tm) (l : Hst) (x3 x4 x5 x6 : Option D), en = [some (.ref dr), some (.ref (h.length + 2)), some (.ref (h.length + 3)), x3, x4, x5, x6, none] ∧ h' = h ++ O.lst (A.map .str) :: O.lst (B.map .str) :: O.lst (C.map .str) :: O.lst (its.map Tm.d) :: l ∧ (its.flatMap Tm.sub).length ≤ i)
    [some (.ref dr), some (.ref (h.length + 2)), some (.ref (h.length + 3)), none, none, none, none, none] (h ++ [.lst (A.map .str), .lst (B.map .str), .lst (C.map .str), .lst []]) ⟨[], [], _, _, _, _, rfl, rfl, Nat.le_refl _⟩
    (fun i en h' _ ⟨_, _, _, _, _, _, _, q, _⟩ => by rw [q]; exact get_old e)
    (fun i x en h' hx ⟨its, l, x3, x4, x5, x6, q1, q2, sz⟩ => by
      have hi := (List.getElem?_eq_some_iff.mp hx).1
      rw [List.length_map] at hi
      rw [List.getElem?_map] at hx
      obtain ⟨d, hd, rfl⟩ := Option.map_eq_some_iff.mp hx
      have bd := dig d (List.mem_of_getElem? hd)
      subst q1
      rw [q2]
      refine ⟨_, rfl, ?_⟩
      obtain ⟨its', l', y4, y5, y6, r, r2⟩ := step1 its l d x4 x5 x6 none bd.1 bd.2 (by omega)
      show (y_l_nest_1 (callF g n) g [some (.ref dr), some (.ref (h.length + 2)), some (.ref (h.length + 3)), some (.int d), x4, x5, x6, none] (h ++ O.lst (A.map .str) :: O.lst (B.map .str) :: O.lst (C.map .str) :: O.lst (its.map Tm.d) :: l)).sat _ _
      rw [r]
      exact ⟨its', l', _, _, _, _, rfl, rfl, by omega⟩)
  rw [List.length_map] at sz
  rw [q1, q2] at l1
  -- at least one
  obtain ⟨its2, l2, r2, sz2, ne2⟩ : ∃ (its2 : List Tm) (l2 : Hst), (sIf (tV (vB eqD (vVar 2) (vLst (aNil)))) (sExpr (vM .list appendM (vVar 2) (aCons (vTup (aCons (vC (.str [110, 97, 109, 101])) (aCons (vC (.str [120])) (aNil)))) (aNil)))) (sNil)) [some (.ref dr), some (.ref (h.length + 2)), some (.ref (h.length + 3)), x3, x4, x5, x6, none] (h ++ O.lst (A.map .str) :: O.lst (B.map .str) :: O.lst (C.map .str) :: O.lst (its.map Tm.d) :: l) =
      .nx [some (.ref dr), some (.ref (h.length + 2)), some (.ref (h.length + 3)), x3, x4, x5, x6, none] (h ++ O.lst (A.map .str) :: O.lst (B.map .str) :: O.lst (C.map .str) :: O.lst (its2.map Tm.d) :: l2) ∧ (its2.flatMap Tm.sub).length ≤ 21 ∧ its2 ≠ [] := by
    have eE : eqD (.ref (h.length + 3)) (.ref (h.length + (l.length + 4))) (h ++ O.lst (A.map .str) :: O.lst (B.map .str) :: O.lst (C.map .str) :: O.lst (its.map Tm.d) :: (l ++ [.lst []])) = .ok (.bl its.isEmpty) (h ++ O.lst (A.map .str) :: O.lst (B.map .str) :: O.lst (C.map .str) :: O.lst (its.map Tm.d) :: (l ++ [.lst []])) :=
      eqD_of (ne_tms pile_at (by rw [get_app2]; simp) (by omega))
    by_cases ei : its = []
    · have : its.isEmpty = true := by rw [ei]; rfl
      rw [this] at eE
      refine ⟨[.nm [120]], l ++ [.lst []], ?_, by simp [Tm.sub], by simp⟩
      have p := pile_push (h := h) (A := A.map .str) (B := B.map .str) (C := C.map .str) (l := l ++ [.lst []]) (its := its) (.nm [120]) (by rw [ei]; simp)
      rw [show (Tm.nm [120]).d = .tup [.str [110, 97, 109, 101], .str [120]] from rfl] at p
      have ty := pile_ty (h := h) (A := A.map .str) (B := B.map .str) (C := C.map .str) (l := l ++ [.lst []]) (its := its)
      simp [eE, ty, p]
      rw [ei]
    · have : its.isEmpty = false := by simpa using ei
      rw [this] at eE
      exact ⟨its, l ++ [.lst []], by simp [eE], by omega, ei⟩
  -- what is left is put together
  obtain ⟨en3, h3, l3, its3, l4, y5, y6, y7, q5, q6, sz3, ne3⟩ := forL_end (chk := .none) (g := gNm 7) (b := y_l_nest_2 (callF g n) g) (rngD 0 ds.length)
    (fun i en h' => ∃ (its : List Tm) (l : Hst) (y5 y6 y7 : Option D), en = [some (.ref dr), some (.ref (h.length + 2)), some (.ref (h.length + 3)), x3, x4, y5, y6, y7] ∧ h' = h ++ O.lst (A.map .str) :: O.lst (B.map .str) :: O.lst (C.map .str) :: O.lst (its.map Tm.d) :: l ∧ (its.flatMap Tm.sub).length ≤ 21 + i ∧ its ≠ [])
    [some (.ref dr), some (.ref (h.length + 2)), some (.ref (h.length + 3)), x3, x4, x5, x6, none] (h ++ O.lst (A.map .str) :: O.lst (B.map .str) :: O.lst (C.map .str) :: O.lst (its2.map Tm.d) :: l2) ⟨its2, l2, _, _, _, rfl, rfl, by omega, ne2⟩ (fun _ _ _ _ _ => trivial)
    (fun i x en h' hx ⟨its, l, y5, y6, y7, q1, q2, sz, ne⟩ => by
      obtain ⟨hi, rfl⟩ := range_get hx
      subst q1
      rw [q2]
      refine ⟨_, rfl, ?_⟩
      show (y_l_nest_2 (callF g n) g [some (.ref dr), some (.ref (h.length + 2)), some (.ref (h.length + 3)), x3, x4, y5, y6, some (.int (0 + (i : Int)))] (h ++ O.lst (A.map .str) :: O.lst (B.map .str) :: O.lst (C.map .str) :: O.lst (its.map Tm.d) :: l)).sat _ _
      unfold y_l_nest_2
      rw [sIf_ap]
      by_cases c2 : 2 ≤ its.length
      · have il := its_le (its := its)
        have ge : (2 : Int) ≤ its.length := by omega
        have t1 : (tV (vB geD (vCall lenD (aCons (vVar 2) (aNil))) (vC (.int 2)))) [some (.ref dr), some (.ref (h.length + 2)), some (.ref (h.length + 3)), x3, x4, y5, y6, some (.int (0 + (i : Int)))] (h ++ O.lst (A.map .str) :: O.lst (B.map .str) :: O.lst (C.map .str) :: O.lst (its.map Tm.d) :: l) = .ok true (h ++ O.lst (A.map .str) :: O.lst (B.map .str) :: O.lst (C.map .str) :: O.lst (its.map Tm.d) :: l) := by
          simp only [tV_ap, vB_ap, vVar_ap, vC_ap, vCall_ap, aCons_ap, aNil_ap, List.getElem?_cons_succ, List.getElem?_cons_zero, bind_ok, pile_len, geD_int, ge, decide_true, asB_bl]
        rw [t1]
        obtain ⟨i0, p, q, rfl⟩ := two_last c2
        have e3 : i0 ++ [p, q] = (i0 ++ [p]) ++ [q] := by simp
        have p1 := pile_pop (h := h) (A := A.map .str) (B := B.map .str) (C := C.map .str) (l := l) (its := i0 ++ [p]) (t := q)
        have p2 := pile_pop (h := h) (A := A.map .str) (B := B.map .str) (C := C.map .str) (l := l) (its := i0) (t := p)
        have p3 := pile_push (h := h) (A := A.map .str) (B := B.map .str) (C := C.map .str) (l := l) (its := i0) (.ap p q) (Nat.lt_of_le_of_lt (show i0.length ≤ (i0 ++ [p, q]).length by simp) (by omega))
        rw [show (Tm.ap p q).d = .tup [.str [97, 112, 112, 108, 121], p.d, q.d] from rfl] at p3
        rw [e3]
        simp only [bindS_ok, sSeq_ap, sSet_ap, vM_ap, vVar_ap, aNil_ap, List.getElem?_cons_succ, List.getElem?_cons_zero, bind_ok, pile_ty, if_true, p1, thenS_nx, List.set_cons_succ, List.set_cons_zero, p2, sExpr_ap, aCons_ap, vTup_ap, vC_ap, List.length_cons, List.length_nil, Nat.reduceAdd, Nat.reduceLeDiff, p3]
        exact ⟨_, _, _, _, _, rfl, rfl, by simp [Tm.sub] at sz ⊢; omega, by simp⟩
      · have ge : ¬ (2 : Int) ≤ its.length := by omega
        have t1 : (tV (vB geD (vCall lenD (aCons (vVar 2) (aNil))) (vC (.int 2)))) [some (.ref dr), some (.ref (h.length + 2)), some (.ref (h.length + 3)), x3, x4, y5, y6, some (.int (0 + (i : Int)))] (h ++ O.lst (A.map .str) :: O.lst (B.map .str) :: O.lst (C.map .str) :: O.lst (its.map Tm.d) :: l) = .ok false (h ++ O.lst (A.map .str) :: O.lst (B.map .str) :: O.lst (C.map .str) :: O.lst (its.map Tm.d) :: l) := by
          simp only [tV_ap, vB_ap, vVar_ap, vC_ap, vCall_ap, aCons_ap, aNil_ap, List.getElem?_cons_succ, List.getElem?_cons_zero, bind_ok, pile_len, geD_int, ge, decide_false, asB_bl]
        rw [t1]
        simp only [bindS_ok, sNil_ap]
        exact ⟨_, _, _, _, _, rfl, rfl, by omega, ne⟩)
  rw [rngD_len] at sz3
  rw [q5, q6] at l3
  obtain ⟨t, its4, rfl⟩ := List.exists_cons_of_ne_nil ne3
  refine ⟨t, ?_, by simp only [List.flatMap_cons, List.length_append] at sz3; omega⟩
  rw [runF_eq]
  have apA : ([D.str [120], .str [121], .str [122], .str [120, 49], .str [118, 48], .str [118, 49], .str [97, 50, 51, 52, 53, 54, 55, 56], .str [98], .str [99], .str [120], .str [121], .str [], .str [88], .str [49, 120], .str [97, 50, 51, 52, 53, 54, 55, 56, 57], .str [120, 32, 121]] : List D) = A.map .str := by rw [← hA]; rfl
  have apB : ([D.str [120, 95], .str [120, 89], .str [32, 120], .str [122, 57]] : List D) = B.map .str := by rw [← hB]; rfl
  have ac : addD (.ref h.length) (.ref (h.length + 1)) (h ++ [.lst (A.map .str), .lst (B.map .str)]) = .ok (.ref (h.length + 2)) (h ++ [.lst (A.map .str), .lst (B.map .str), .lst (C.map .str)]) := by
    rw [addD_ref (xs := A.map .str) (ys := B.map .str) (by rw [get_app]; rfl) (by rw [get_app2]; rfl) (by simp; omega), ← hC]
    simp
  have e0 : (h ++ [O.lst (A.map D.str), .lst (B.map .str), .lst (C.map .str), .lst []])[dr]? = some (.lst (ds.map .int)) := get_old e
  have e2 : (h ++ O.lst (A.map .str) :: O.lst (B.map .str) :: O.lst (C.map .str) :: O.lst (its2.map Tm.d) :: l2)[dr]? = some (.lst (ds.map .int)) := get_old e
  have ln : lenD [.ref dr] (h ++ O.lst (A.map .str) :: O.lst (B.map .str) :: O.lst (C.map .str) :: O.lst (its2.map Tm.d) :: l2) = .ok (.int ds.length) (h ++ O.lst (A.map .str) :: O.lst (B.map .str) :: O.lst (C.map .str) :: O.lst (its2.map Tm.d) :: l2) := by rw [lenD_lst e2]; simp
  have rg := rng1K_nat (j := ds.length) (h ++ O.lst (A.map .str) :: O.lst (B.map .str) :: O.lst (C.map .str) :: O.lst (its2.map Tm.d) :: l2) (by omega)
  have e9 : ixD (.ref (h.length + 3)) (.int 0) (h ++ O.lst (A.map .str) :: O.lst (B.map .str) :: O.lst (C.map .str) :: O.lst ((t :: its4).map Tm.d) :: l4) = .ok t.d (h ++ O.lst (A.map .str) :: O.lst (B.map .str) :: O.lst (C.map .str) :: O.lst ((t :: its4).map Tm.d) :: l4) := ixD_lst pile_at (by have := atI_nat ((t :: its4).map Tm.d) 0; simpa using this)
  have s1 : (sSet 1 (vLst (aCons (vC (.str [120])) (aCons (vC (.str [121])) (aCons (vC (.str [122])) (aCons (vC (.str [120, 49])) (aCons (vC (.str [118, 48])) (aCons (vC (.str [118, 49])) (aCons (vC (.str [97, 50, 51, 52, 53, 54, 55, 56])) (aCons (vC (.str [98])) (aCons (vC (.str [99])) (aCons (vC (.str [120])) (aCons (vC (.str [121])) (aCons (vC (.str [])) (aCons (vC (.str [88])) (aCons (vC (.str [49, 120])) (aCons (vC (.str [97, 50, 51, 52, 53, 54, 55, 56, 57])) (aCons (vC (.str [120, 32, 121])) (aNil))))))))))))))))))) [some (.ref dr), none, none, none, none, none, none, none] h = .nx [some (.ref dr), some (.ref h.length), none, none, none, none, none, none] (h ++ [.lst (A.map .str)]) := by
    simp [apA, lA]
  have s2 : (sSet 1 (vB addD (vVar 1) (vLst (aCons (vC (.str [120, 95])) (aCons (vC (.str [120, 89])) (aCons (vC (.str [32, 120])) (aCons (vC (.str [122, 57])) (aNil)))))))) [some (.ref dr), some (.ref h.length), none, none, none, none, none, none] (h ++ [.lst (A.map .str)]) = .nx [some (.ref dr), some (.ref (h.length + 2)), none, none, none, none, none, none] (h ++ [.lst (A.map .str), .lst (B.map .str), .lst (C.map .str)]) := by
    simp [apB, lB, ac]
  have s3 : (sSet 2 (vLst (aNil))) [some (.ref dr), some (.ref (h.length + 2)), none, none, none, none, none, none] (h ++ [.lst (A.map .str), .lst (B.map .str), .lst (C.map .str)]) = .nx [some (.ref dr), some (.ref (h.length + 2)), some (.ref (h.length + 3)), none, none, none, none, none] (h ++ [.lst (A.map .str), .lst (B.map .str), .lst (C.map .str), .lst []]) := by simp
  have s4 : (sFor (iSeq (vVar 0)) (gNm 3) (y_l_nest_1 (callF g n) g)) [some (.ref dr), some (.ref (h.length + 2)), some (.ref (h.length + 3)), none, none, none, none, none] (h ++ [.lst (A.map .str), .lst (B.map .str), .lst (C.map .str), .lst []]) = .nx [some (.ref dr), some (.ref (h.length + 2)), some (.ref (h.length + 3)), x3, x4, x5, x6, none] (h ++ O.lst (A.map .str) :: O.lst (B.map .str) :: O.lst (C.map .str) :: O.lst (its.map Tm.d) :: l) := by
    simp only [sFor_ap, iSeq_ap, vVar_ap, List.getElem?_cons_zero, bind_ok, iterD_ref e0, l1]
  have s6 : (sFor (iRng1 (aCons (vCall lenD (aCons (vVar 0) (aNil))) (aNil))) (gNm 7) (y_l_nest_2 (callF g n) g)) [some (.ref dr), some (.ref (h.length + 2)), some (.ref (h.length + 3)), x3, x4, x5, x6, none] (h ++ O.lst (A.map .str) :: O.lst (B.map .str) :: O.lst (C.map .str) :: O.lst (its2.map Tm.d) :: l2) = .nx [some (.ref dr), some (.ref (h.length + 2)), some (.ref (h.length + 3)), x3, x4, y5, y6, y7] (h ++ O.lst (A.map .str) :: O.lst (B.map .str) :: O.lst (C.map .str) :: O.lst ((t :: its4).map Tm.d) :: l4) := by
    simp only [sFor_ap, iRng1_ap, vCall_ap, aCons_ap, aNil_ap, vVar_ap, List.getElem?_cons_zero, bind_ok, ln, rg, l3]
  show finR h (b_l_nest (callF g n) g [some (.ref dr), none, none, none, none, none, none, none] h) = _
  unfold b_l_nest
  simp only [sSeq_ap, s1, s2, s3, s4, r2, s6, thenS_nx, sRet_ap, vB_ap, vVar_ap, vC_ap, List.getElem?_cons_succ, List.getElem?_cons_zero, bind_ok, e9, bindS_ok, finR_rt]
  exact finish_drop _ _ _ (Tm.noRef _)
/-! a bushy nest -/
def pairUp : List Tm → List Tm
  | a :: b :: r => .ap a b :: pairUp r
  | r => r
def dfl : Tm := .nm []
def halves (rows : List Tm) : List Tm := (List.range (rows.length / 2)).map fun k => .ap (rows.getD (2 * k) dfl) (rows.getD (2 * k + 1) dfl)
theorem pair_eq : ∀ rows : List Tm, halves rows ++ rows.drop (rows.length / 2 * 2) = pairUp rows
  | [] => rfl
  | [a] => by simp [halves, pairUp]
  | a :: b :: r => by
    have ih := pair_eq r
    have e : (a :: b :: r).length / 2 = r.length / 2 + 1 := by simp only [List.length_cons]; omega
    unfold halves at ih ⊢
    rw [e, List.range_succ_eq_map, List.map_cons, List.map_map, pairUp, ← ih]
    have d : (r.length / 2 + 1) * 2 = r.length / 2 * 2 + 1 + 1 := by omega
    rw [d, List.drop_succ_cons, List.drop_succ_cons]
    rfl
theorem pair_sz : ∀ rows : List Tm, ((pairUp rows).flatMap Tm.sub).length + (pairUp rows).length ≤ (rows.flatMap Tm.sub).length + rows.length
  | [] => by simp [pairUp]
  | [a] => by simp [pairUp]
  | a :: b :: r => by
    have ih := pair_sz r
    simp only [pairUp, List.flatMap_cons, List.length_append, List.length_cons, Tm.sub]
    omega
theorem pair_high : ∀ (rows : List Tm) (k : Nat), (∀ t ∈ rows, t.high ≤ k) → ∀ t ∈ pairUp rows, t.high ≤ k + 1
  | [], k, h, t, ht => by cases ht
  | [a], k, h, t, ht => by
    have := h t ht
    omega
  | a :: b :: r, k, h, t, ht => by
    rcases List.mem_cons.mp ht with q | q
    · have h1 := h a (by simp)
      have h2 := h b (by simp)
      rw [q, Tm.high]
      omega
    · exact pair_high r k (fun t ht => h t (List.mem_cons_of_mem _ (List.mem_cons_of_mem _ ht))) t q
theorem pair_ne : ∀ rows : List Tm, rows ≠ [] → pairUp rows ≠ []
  | [], h => absurd rfl h
  | [a], _ => by simp [pairUp]
  | a :: b :: r, _ => by simp [pairUp]
theorem rngD_map : ∀ (m : Nat), rngD 0 m = (List.range m).map fun k => .int (k : Nat) := fun m => by
  refine List.ext_getElem? fun i => ?_
  by_cases q : i < m
  · rw [rngD_at q, List.getElem?_map, List.getElem?_range q]
    simp
  · rw [List.getElem?_eq_none (by rw [rngD_len]; omega), List.getElem?_eq_none (by simp; omega)]
theorem bushy_ok (hn : 1 < n) (ds : List Int) (dig : ∀ d ∈ ds, 0 ≤ d ∧ d < 60) (h : Hst) {dr : Nat} (e : h[dr]? = some (.lst (ds.map .int))) : ∃ t : Tm, callF g n .l_bushy [.ref dr] h = .ok t.d h ∧ t.high ≤ 20 ∧ t.sub.length ≤ 1500 := by
  obtain ⟨n, rfl⟩ : ∃ m, n = m + 1 := ⟨n - 1, by omega⟩
  show ∃ t : Tm, runF 9 (b_l_bushy (callF g n) g) _ h = _ ∧ _
  have hat : ∀ (k : Int) (l : Hst), 0 ≤ k → callF g n .l_at [.ref dr, .int k] (h ++ l) = .ok (.int (atZ ds k)) (h ++ l) := fun k l hk => at_ok (by omega) ds k hk (get_old e)
  have hat0 : ∀ (k : Int), 0 ≤ k → callF g n .l_at [.ref dr, .int k] h = .ok (.int (atZ ds k)) h := fun k hk => at_ok (by omega) ds k hk e
  have bnd : ∀ k : Int, 0 ≤ atZ ds k ∧ atZ ds k < 60 := fun k => by
    rcases atZ_mem (xs := ds) (k := k) with q | q
    · exact dig _ q
    · rw [q]; decide
  obtain ⟨f, hf⟩ : ∃ f, atZ ds 0 = f := ⟨_, rfl⟩
  have bf := bnd 0
  rw [hf] at bf
  obtain ⟨mz, hmz, atm⟩ := atI_ex (xs := [(61 : Int), 62, 61 + f, 500 - f, 125 + 5 * f, 333]) (i := atZ ds 1 % 6) (Int.emod_nonneg _ (by decide)) (by have := Int.emod_lt_of_pos (atZ ds 1) (show (0 : Int) < 6 by decide); simpa using this)
  obtain ⟨C, hC⟩ : ∃ C : List D, [D.int 61, .int 62, .int (61 + f), .int (500 - f), .int (125 + 5 * f), .int 333] = C := ⟨_, rfl⟩
  have lC : C.length = 6 := by rw [← hC]; rfl
  have atm2 : atI C (atZ ds 1 % 6) = some (.int mz) := by
    have := atI_map D.int [(61 : Int), 62, 61 + f, 500 - f, 125 + 5 * f, 333] (atZ ds 1 % 6)
    rw [atm] at this
    rw [← hC]
    exact this
  obtain ⟨many, hmany, m1, m2⟩ : ∃ many : Nat, mz = (many : Int) ∧ 1 ≤ many ∧ many ≤ 500 := by
    simp only [List.mem_cons, List.not_mem_nil, or_false] at hmz
    exact ⟨mz.toNat, by omega, by omega, by omega⟩
  subst hmany
  obtain ⟨sd, hsd⟩ : ∃ sd, atZ ds 2 % 4 = sd := ⟨_, rfl⟩
  -- the leaves
  obtain ⟨en1, h1, l1, rows, x5, x6, q1, q2, rl, rs, rh⟩ := forL_end (chk := .none) (g := gNm 5) (b := y_l_bushy_1 (callF g n) g) (rngD 0 many)
    (fun i en h' => ∃ (rows : List Tm) (x5 x6 : Option D), en = [some (.ref dr), some (.int f), some (.int many), some (.int sd), some (.ref (h.length + 1)), x5, x6, none, none] ∧ h' = h ++ [.lst C, .lst (rows.map Tm.d)] ∧ rows.length = i ∧ (rows.flatMap Tm.sub).length ≤ 2 * i ∧ ∀ t ∈ rows, t.high ≤ 2)
    [some (.ref dr), some (.int f), some (.int many), some (.int sd), some (.ref (h.length + 1)), none, none, none, none] (h ++ [.lst C, .lst []]) ⟨[], _, _, rfl, rfl, rfl, Nat.le_refl _, fun t ht => by cases ht⟩ (fun _ _ _ _ _ => trivial)
    (fun i x en h' hx ⟨rows, x5, x6, q1, q2, rl, rs, rh⟩ => by
      obtain ⟨hi, rfl⟩ := range_get hx
      subst q1
      rw [q2]
      refine ⟨_, rfl, ?_⟩
      have st : ∀ hh, strC [.int (i : Int)] hh = .ok (.str (decI i)) hh := fun hh => strC_nat hh (by omega)
      have ad := addU i (by omega)
      have eR : (h ++ [O.lst C, .lst (rows.map Tm.d)])[h.length + 1]? = some (.lst (rows.map Tm.d)) := by rw [get_app2]; rfl
      have ty := tyD_lst eR
      have push : ∀ t : Tm, appendM (.ref (h.length + 1)) [t.d] (h ++ [O.lst C, .lst (rows.map Tm.d)]) = .ok .non (h ++ [O.lst C, .lst ((rows ++ [t]).map Tm.d)]) := fun t => by
        rw [appendM_ref _ eR (by simp; omega)]; simp
      show (y_l_bushy_1 (callF g n) g [some (.ref dr), some (.int f), some (.int many), some (.int sd), some (.ref (h.length + 1)), some (.int (0 + (i : Int))), x6, none, none] (h ++ [O.lst C, .lst (rows.map Tm.d)])).sat _ _
      rw [Int.zero_add]
      obtain ⟨b, tt⟩ : ∃ b, (tAndE (tV (vB gtD (vVar 3) (vC (.int 0)))) (tAndE (tV (vB leD (vVar 2) (vC (.int 333)))) (tV (vB eqD (vB modD (vVar 5) (vVar 3)) (vC (.int 0)))))) [some (.ref dr), some (.int f), some (.int many), some (.int sd), some (.ref (h.length + 1)), some (.int (i : Int)), some (Tm.nm (117 :: decI i)).d, none, none] (h ++ [O.lst C, .lst (rows.map Tm.d)]) = .ok b (h ++ [O.lst C, .lst (rows.map Tm.d)]) := by
        by_cases p1 : (0 : Int) < sd
        · by_cases p2 : (many : Int) ≤ 333
          · have md : modD (.int (i : Int)) (.int sd) (h ++ [O.lst C, .lst (rows.map Tm.d)]) = .ok (.int ((i : Int) % sd)) (h ++ [O.lst C, .lst (rows.map Tm.d)]) := modD_int _ _ _ p1
            exact ⟨(i : Int) % sd == 0, by simp only [tAndE_ap, tV_ap, vB_ap, vVar_ap, vC_ap, List.getElem?_cons_succ, List.getElem?_cons_zero, bind_ok, gtD_int, p1, decide_true, asB_bl, leD_int, p2, md, eqD_int]⟩
          · exact ⟨false, by simp only [tAndE_ap, tV_ap, vB_ap, vVar_ap, vC_ap, List.getElem?_cons_succ, List.getElem?_cons_zero, bind_ok, gtD_int, p1, decide_true, asB_bl, leD_int, p2, decide_false]⟩
        · exact ⟨false, by simp only [tAndE_ap, tV_ap, vB_ap, vVar_ap, vC_ap, List.getElem?_cons_succ, List.getElem?_cons_zero, bind_ok, gtD_int, p1, decide_false, asB_bl]⟩
      have s6 : (sSet 6 (vTup (aCons (vC (.str [110, 97, 109, 101])) (aCons (vB addD (vC (.str [117])) (vCall strC (aCons (vVar 5) (aNil)))) (aNil))))) [some (.ref dr), some (.int f), some (.int many), some (.int sd), some (.ref (h.length + 1)), some (.int (i : Int)), x6, none, none] (h ++ [O.lst C, .lst (rows.map Tm.d)]) = .nx [some (.ref dr), some (.int f), some (.int many), some (.int sd), some (.ref (h.length + 1)), some (.int (i : Int)), some (Tm.nm (117 :: decI i)).d, none, none] (h ++ [O.lst C, .lst (rows.map Tm.d)]) := by simp [st, ad, Tm.d]
      unfold y_l_bushy_1
      rw [sSeq_ap, s6, thenS_nx, sSeq_ap, sIf_ap, tt]
      cases b with
      | true =>
        have s7 : (sSet 6 (vTup (aCons (vC (.str [98, 105, 110, 100])) (aCons (vB addD (vC (.str [117])) (vCall strC (aCons (vVar 5) (aNil)))) (aCons (vVar 6) (aNil)))))) [some (.ref dr), some (.int f), some (.int many), some (.int sd), some (.ref (h.length + 1)), some (.int (i : Int)), some (Tm.nm (117 :: decI i)).d, none, none] (h ++ [O.lst C, .lst (rows.map Tm.d)]) = .nx [some (.ref dr), some (.int f), some (.int many), some (.int sd), some (.ref (h.length + 1)), some (.int (i : Int)), some (Tm.bd (117 :: decI i) (.nm (117 :: decI i))).d, none, none] (h ++ [O.lst C, .lst (rows.map Tm.d)]) := by simp [st, ad, Tm.d]
        simp only [bindS_ok, s7, thenS_nx, sExpr_ap, vM_ap, vVar_ap, List.getElem?_cons_succ, List.getElem?_cons_zero, bind_ok, ty, if_true, aCons_ap, aNil_ap, push]
        exact ⟨_, _, _, rfl, rfl, by simp [rl], by simp [Tm.sub] at rs ⊢; omega, fun t ht => by
          rcases List.mem_append.mp ht with z | z
          · exact rh t z
          · rw [List.mem_singleton.mp z]; simp [Tm.high]⟩
      | false =>
        simp only [bindS_ok, sNil_ap, thenS_nx, sExpr_ap, vM_ap, vVar_ap, List.getElem?_cons_succ, List.getElem?_cons_zero, bind_ok, ty, if_true, aCons_ap, aNil_ap, push]
        exact ⟨_, _, _, rfl, rfl, by simp [rl], by simp [Tm.sub] at rs ⊢; omega, fun t ht => by
          rcases List.mem_append.mp ht with z | z
          · exact rh t z
          · rw [List.mem_singleton.mp z]; simp [Tm.high]⟩)
  rw [rngD_len] at rl rs
  rw [q1, q2] at l1
  -- nine turns
  obtain ⟨en2, h2, l2, rw2, r4, l, y5, y7, y8, q3, q4, q5, sz2, hi2, ne2⟩ := forL_end (chk := .none) (g := gNm 7) (b := y_l_bushy_2 (callF g n) g) (rngD 0 9)
    (fun i en h' => ∃ (rows : List Tm) (r4 : Nat) (l : Hst) (y5 y7 y8 : Option D), en = [some (.ref dr), some (.int f), some (.int many), some (.int sd), some (.ref r4), y5, x6, y7, y8] ∧ h' = h ++ l ∧ (h ++ l)[r4]? = some (.lst (rows.map Tm.d)) ∧ (rows.flatMap Tm.sub).length + rows.length ≤ 1500 ∧ (∀ t ∈ rows, t.high ≤ 2 + i) ∧ rows ≠ [])
    [some (.ref dr), some (.int f), some (.int many), some (.int sd), some (.ref (h.length + 1)), x5, x6, none, none] (h ++ [.lst C, .lst (rows.map Tm.d)]) ⟨rows, _, _, _, _, _, rfl, rfl, by rw [get_app2]; rfl, by omega, fun t ht => rh t ht, fun z => by rw [z] at rl; simp at rl; omega⟩ (fun _ _ _ _ _ => trivial)
    (fun i x en h' hx ⟨rows, r4, l, y5, y7, y8, q1, q2, q3, sz, hh, ne⟩ => by
      obtain ⟨hi, rfl⟩ := range_get hx
      subst q1
      rw [q2]
      refine ⟨_, rfl, ?_⟩
      obtain ⟨H, hH⟩ : ∃ H, h ++ l = H := ⟨_, rfl⟩
      rw [hH] at q3 ⊢
      have ln : lenD [.ref r4] H = .ok (.int rows.length) H := by rw [lenD_lst q3]; simp
      obtain ⟨m, hm⟩ : ∃ m, rows.length / 2 = m := ⟨_, rfl⟩
      have dv : ∀ hh, divD (.int (rows.length : Int)) (.int 2) hh = .ok (.int m) hh := fun hh => by
        rw [divD_int _ _ _ (by decide) (by decide)]
        congr 2
        omega
      have lc := lcL_filt (chk := .none) (g := gNm 5) (t := tsN) (f := vTup (aCons (vC (.str [97, 112, 112, 108, 121])) (aCons (vB ixD (vVar 4) (vB mulD (vC (.int 2)) (vVar 5))) (aCons (vB ixD (vVar 4) (vB addD (vB mulD (vC (.int 2)) (vVar 5)) (vC (.int 1)))) (aNil)))))
        (en := [some (.ref dr), some (.int f), some (.int many), some (.int sd), some (.ref r4), none, x6, some (.int (i : Int)), y8]) (h := H) (fun k : Nat => D.int (k : Int)) (fun _ => true) (fun k => (Tm.ap (rows.getD (2 * k) dfl) (rows.getD (2 * k + 1) dfl)).d) trivial (List.range m) [] (by simp; omega) (fun k hk => by
          rw [List.mem_range] at hk
          refine ⟨_, rfl, rfl, fun _ => ?_⟩
          have mu : mulD (.int 2) (.int (k : Int)) H = .ok (.int ((2 * k : Nat) : Int)) H := by rw [mulD_r _ _ _ (by omega) (by omega)]; simp
          have i1 : ixD (.ref r4) (.int ((2 * k : Nat) : Int)) H = .ok (rows.getD (2 * k) dfl).d H := ixD_lst q3 (by rw [atI_nat, List.getElem?_map, List.getD_eq_getElem?_getD, List.getElem?_eq_getElem (show 2 * k < rows.length by omega)]; rfl)
          have i2 : ixD (.ref r4) (.int (((2 * k : Nat) : Int) + 1)) H = .ok (rows.getD (2 * k + 1) dfl).d H := ixD_lst q3 (by
            have := atI_nat (rows.map Tm.d) (2 * k + 1)
            rw [show ((2 * k + 1 : Nat) : Int) = ((2 * k : Nat) : Int) + 1 by omega] at this
            rw [this, List.getElem?_map, List.getD_eq_getElem?_getD, List.getElem?_eq_getElem (show 2 * k + 1 < rows.length by omega)]; rfl)
          simp only [vTup_ap, aCons_ap, aNil_ap, vC_ap, vB_ap, vVar_ap, List.set_cons_succ, List.set_cons_zero, List.getElem?_cons_succ, List.getElem?_cons_zero, bind_ok, mu, i1, addD_int, i2, List.length_cons, List.length_nil, Nat.reduceAdd, Nat.reduceLeDiff, if_true]
          rfl)
      have ft : (List.range m).filter (fun _ => true) = List.range m := List.filter_eq_self.mpr fun _ _ => rfl
      have hv : (List.range m).map (fun k => (Tm.ap (rows.getD (2 * k) dfl) (rows.getD (2 * k + 1) dfl)).d) = (halves rows).map Tm.d := by unfold halves; rw [hm, List.map_map]; rfl
      rw [List.nil_append, ft, hv, ← rngD_map] at lc
      have lh : (halves rows).length = m := by unfold halves; simp [hm]
      have rg := rng1K_nat (j := m) H (by omega)
      have q3' : (H ++ [O.lst ((halves rows).map Tm.d)])[r4]? = some (.lst (rows.map Tm.d)) := get_old q3
      have ln2 : lenD [.ref r4] (H ++ [O.lst ((halves rows).map Tm.d)]) = .ok (.int rows.length) (H ++ [O.lst ((halves rows).map Tm.d)]) := by rw [lenD_lst q3']; simp
      have mu2 : mulD (.int (m : Int)) (.int 2) (H ++ [O.lst ((halves rows).map Tm.d)]) = .ok (.int ((m * 2 : Nat) : Int)) (H ++ [O.lst ((halves rows).map Tm.d)]) := by rw [mulD_r _ _ _ (by omega) (by omega)]; simp
      have sl : slD (.ref r4) (some ((m * 2 : Nat) : Int)) none (H ++ [O.lst ((halves rows).map Tm.d)]) = .ok (.ref (H.length + 1)) (H ++ [O.lst ((halves rows).map Tm.d), .lst ((rows.drop (m * 2)).map Tm.d)]) := by
        rw [slD_ref _ _ q3', cutL_map, cutL_drop]; simp
      have a1 : addD (.ref H.length) (.ref (H.length + 1)) (H ++ [O.lst ((halves rows).map Tm.d), .lst ((rows.drop (m * 2)).map Tm.d)]) = .ok (.ref (H.length + 2)) (H ++ [O.lst ((halves rows).map Tm.d), .lst ((rows.drop (m * 2)).map Tm.d), .lst ((pairUp rows).map Tm.d)]) := by
        rw [addD_ref (xs := (halves rows).map Tm.d) (ys := (rows.drop (m * 2)).map Tm.d) (by rw [get_app]; rfl) (by rw [get_app2]; rfl) (by simp; omega), ← List.map_append, ← hm, pair_eq]; simp
      show (y_l_bushy_2 (callF g n) g [some (.ref dr), some (.int f), some (.int many), some (.int sd), some (.ref r4), y5, x6, some (.int (0 + (i : Int))), y8] H).sat _ _
      rw [Int.zero_add]
      have s8 : (sSet 8 (vLc [5] (iRng1 (aCons (vB divD (vCall lenD (aCons (vVar 4) (aNil))) (vC (.int 2))) (aNil))) (gNm 5) (tsN) (vTup (aCons (vC (.str [97, 112, 112, 108, 121])) (aCons (vB ixD (vVar 4) (vB mulD (vC (.int 2)) (vVar 5))) (aCons (vB ixD (vVar 4) (vB addD (vB mulD (vC (.int 2)) (vVar 5)) (vC (.int 1)))) (aNil))))))) [some (.ref dr), some (.int f), some (.int many), some (.int sd), some (.ref r4), y5, x6, some (.int (i : Int)), y8] H =
          .nx [some (.ref dr), some (.int f), some (.int many), some (.int sd), some (.ref r4), y5, x6, some (.int (i : Int)), some (.ref H.length)] (H ++ [.lst ((halves rows).map Tm.d)]) := by
        simp only [sSet_ap, vLc_ap, iRng1_ap, aCons_ap, aNil_ap, vB_ap, vCall_ap, vVar_ap, vC_ap, List.getElem?_cons_succ, List.getElem?_cons_zero, bind_ok, ln, dv, rg, wipeE, List.foldl_cons, List.foldl_nil, List.set_cons_succ, List.set_cons_zero, lc, bindS_ok]
      have s4 : (sSet 4 (vB addD (vVar 8) (vSl (vVar 4) (oS (vB mulD (vB divD (vCall lenD (aCons (vVar 4) (aNil))) (vC (.int 2))) (vC (.int 2)))) (oN)))) [some (.ref dr), some (.int f), some (.int many), some (.int sd), some (.ref r4), y5, x6, some (.int (i : Int)), some (.ref H.length)] (H ++ [.lst ((halves rows).map Tm.d)]) =
          .nx [some (.ref dr), some (.int f), some (.int many), some (.int sd), some (.ref (H.length + 2)), y5, x6, some (.int (i : Int)), some (.ref H.length)] (H ++ [O.lst ((halves rows).map Tm.d), .lst ((rows.drop (m * 2)).map Tm.d), .lst ((pairUp rows).map Tm.d)]) := by
        simp only [sSet_ap, vB_ap, vSl_ap, oS_ap, oN_ap, vCall_ap, aCons_ap, aNil_ap, vVar_ap, vC_ap, List.getElem?_cons_succ, List.getElem?_cons_zero, bind_ok, ln2, dv, mu2, sl, a1, bindS_ok, List.set_cons_succ, List.set_cons_zero]
      unfold y_l_bushy_2
      rw [sSeq_ap, s8, thenS_nx, s4, ← hH]
      exact ⟨pairUp rows, h.length + l.length + 2, l ++ [O.lst ((halves rows).map Tm.d), .lst ((rows.drop (m * 2)).map Tm.d), .lst ((pairUp rows).map Tm.d)], y5, some (.int (i : Int)), some (.ref (h.length + l.length)), by simp, by simp, by
        rw [Nat.add_assoc, get_app2, get_app2]; rfl, Nat.le_trans (pair_sz rows) sz, fun t ht => by have := pair_high rows _ hh t ht; omega, pair_ne rows ne⟩)
  rw [rngD_len] at hi2
  rw [q3, q4] at l2
  obtain ⟨t, rest, rfl⟩ := List.exists_cons_of_ne_nil ne2
  refine ⟨t, ?_, by have := hi2 t (by simp); omega, by simp only [List.flatMap_cons, List.length_append] at sz2; omega⟩
  rw [runF_eq]
  have e9 : ixD (.ref r4) (.int 0) (h ++ l) = .ok t.d (h ++ l) := ixD_lst q5 (by have := atI_nat ((t :: rest).map Tm.d) 0; simpa using this)
  have g1 := hat 1 [.lst C] (by decide)
  have g2 := hat 2 [.lst C] (by decide)
  have g0 := hat0 0 (by decide)
  rw [hf] at g0
  have m5 : mulD (.int 5) (.int f) h = .ok (.int (5 * f)) h := mulD_r _ _ _ (by omega) (by omega)
  have ixm : ixD (.ref h.length) (.int (atZ ds 1 % 6)) (h ++ [.lst C]) = .ok (.int many) (h ++ [.lst C]) := ixD_lst (by rw [get_app]; rfl) atm2
  have rg1 := rng1K_nat (j := many) (h ++ [O.lst C, .lst []]) (by omega)
  have rg9 := rng1K_nat (j := 9) (h ++ [O.lst C, .lst (rows.map Tm.d)]) (by omega)
  simp at rg9
  simp [b_l_bushy, g0, m5, hC, lC, g1, ixm, g2, hsd, rg1, l1, rg9, l2, e9]
  exact finish_drop _ _ _ (Tm.noRef _)
theorem finish_app {h l : Hst} (t : Tm) : finish h t.d (h ++ l) = .ok t.d h := finish_drop _ _ _ (Tm.noRef _)
theorem gw_take {h h' : Hst} (G : Gw h h') : h'.take h.length = h := by
  refine List.ext_getElem? fun i => ?_
  by_cases q : i < h.length
  · rw [List.getElem?_take, if_pos q, G i _ (List.getElem?_eq_getElem q), List.getElem?_eq_getElem q]
  · rw [List.getElem?_take, if_neg q, List.getElem?_eq_none (by omega)]
theorem gw_app {h h' : Hst} (G : Gw h h') : ∃ l, h' = h ++ l := ⟨h'.drop h.length, by
  have := List.take_append_drop h.length h'
  rw [gw_take G] at this
  exact this.symm⟩
theorem built_ok (hn : 227 ≤ n) (xs : List Int) (h : Hst) : ∃ t : Tm, callF g n .l_built [.sl (xs.map .int)] h = .ok t.d h ∧ t.high ≤ 110 ∧ t.sub.length ≤ 1500 := by
  obtain ⟨n, rfl⟩ : ∃ m, n = m + 1 := ⟨n - 1, by omega⟩
  show ∃ t : Tm, runF 6 (b_l_built (callF g n) g) _ h = _ ∧ _
  have hc : ∀ (k : Int) (h : Hst), 0 ≤ k → callF g n .l_cell [.sl (xs.map .int), .int k] h = .ok (.int (atZ xs k)) h := fun k h hk => cell_ok (by omega) xs k hk
  obtain ⟨md, hmd⟩ : ∃ md, atZ xs 0 % 8 = md := ⟨_, rfl⟩
  obtain ⟨ds, da, db, dc⟩ := digits_ok g h (n := n) (by omega) (atZ xs 1) 1 20 (by decide)
  have e : (h ++ [O.lst (ds.map .int)])[h.length]? = some (.lst (ds.map .int)) := by rw [get_app]; rfl
  have bnd : ∀ k : Int, 0 ≤ atZ ds k ∧ atZ ds k < 60 := fun k => by
    rcases atZ_mem (xs := ds) (k := k) with q | q
    · exact db _ q
    · rw [q]; decide
  have hat : ∀ (k : Int) (l : Hst), 0 ≤ k → callF g n .l_at [.ref h.length, .int k] (h ++ O.lst (ds.map .int) :: l) = .ok (.int (atZ ds k)) (h ++ O.lst (ds.map .int) :: l) := fun k l hk => at_ok (by omega) ds k hk (by rw [get_app]; rfl)
  obtain ⟨X, hX⟩ : ∃ X, some (D.sl (xs.map .int)) = X := ⟨_, rfl⟩
  have z1 : (sSet 1 (vB modD (vCall intC (aCons (vF 2 (callF g n .l_cell) (aCons (vVar 0) (aCons (vC (.int 0)) (aNil)))) (aNil))) (vC (.int 8)))) [X, none, none, none, none, none] h = .nx [X, some (.int md), none, none, none, none] h := by
    rw [← hX]; simp [hc, hmd]
  have z2 : (sSet 2 (vF 3 (callF g n .l_digits) (aCons (vF 2 (callF g n .l_cell) (aCons (vVar 0) (aCons (vC (.int 1)) (aNil)))) (aCons (vC (.int 20)) (aCons (vC (.int 1)) (aNil)))))) [X, some (.int md), none, none, none, none] h = .nx [X, some (.int md), some (.ref h.length), none, none, none] (h ++ [.lst (ds.map .int)]) := by
    have dc' : callF g n .l_digits [.int (atZ xs 1), .int 20, .int 1] h = .ok (.ref h.length) (h ++ [.lst (ds.map .int)]) := by simpa using dc
    rw [← hX]; simp [hc, dc']
  by_cases q1 : md < 2
  · obtain ⟨t, r, sz⟩ := nest_ok (g := g) (n := n) (by omega) ds da db (h ++ [.lst (ds.map .int)]) e
    have hh := high_le t
    refine ⟨t, ?_, by omega, by omega⟩
    rw [runF_eq]
    show finR h (b_l_built (callF g n) g [some (.sl (xs.map .int)), none, none, none, none, none] h) = _
    rw [hX]
    unfold b_l_built
    simp only [sSeq_ap, z1, z2, thenS_nx]
    simp [q1, r]
    exact finish_app t
  · by_cases q2 : md = 2
    · obtain ⟨mo, hmo⟩ : ∃ mo, atZ ds 3 = mo := ⟨_, rfl⟩
      have bm := bnd 3
      rw [hmo] at bm
      obtain ⟨C, hC⟩ : ∃ C : List D, [D.int 60, .int 61, .int 59, .int 61, .int 60, .int 62, .int (15 + mo), .int (99 - mo)] = C := ⟨_, rfl⟩
      have lC : C.length = 8 := by rw [← hC]; rfl
      obtain ⟨mz, hmz, atm⟩ := atI_ex (xs := [(60 : Int), 61, 59, 61, 60, 62, 15 + mo, 99 - mo]) (i := atZ ds 0 % 8) (Int.emod_nonneg _ (by decide)) (by have := Int.emod_lt_of_pos (atZ ds 0) (show (0 : Int) < 8 by decide); simpa using this)
      have atm2 : atI C (atZ ds 0 % 8) = some (.int mz) := by
        have := atI_map D.int [(60 : Int), 61, 59, 61, 60, 62, 15 + mo, 99 - mo] (atZ ds 0 % 8)
        rw [atm] at this
        rw [← hC]
        exact this
      obtain ⟨nn, hnn, m1, m2⟩ : ∃ nn : Nat, mz = (nn : Int) ∧ 1 ≤ nn ∧ nn ≤ 99 := by
        simp only [List.mem_cons, List.not_mem_nil, or_false] at hmz
        exact ⟨mz.toNat, by omega, by omega, by omega⟩
      subst hnn
      have ixm : ixD (.ref (h.length + 1)) (.int (atZ ds 0 % 8)) (h ++ [.lst (ds.map .int), .lst C]) = .ok (.int nn) (h ++ [.lst (ds.map .int), .lst C]) := ixD_lst (by rw [get_app2]; rfl) atm2
      have p0 : (0 : Int) < nn / 2 + 1 := by omega
      obtain ⟨bd, hbd, lbd⟩ : ∃ bd : Nat, atZ ds 1 % 30 % ((nn : Int) / 2 + 1) = (bd : Int) ∧ bd ≤ nn := by
        have b0 := Int.emod_nonneg (atZ ds 1 % 30) (show (nn : Int) / 2 + 1 ≠ 0 by omega)
        have b1 := Int.emod_lt_of_pos (atZ ds 1 % 30) p0
        exact ⟨(atZ ds 1 % 30 % ((nn : Int) / 2 + 1)).toNat, by omega, by omega⟩
      have mdd : ∀ hh, modD (.int (atZ ds 1 % 30)) (.int ((nn : Int) / 2 + 1)) hh = .ok (.int bd) hh := fun hh => by rw [modD_int _ _ _ p0, hbd]
      obtain ⟨t, r, s1, s2⟩ := chain_ok (g := g) (n := n) (by omega) nn bd (atZ ds 2 % 2 == 1) m1 m2 lbd (h ++ [.lst (ds.map .int), .lst C])
      have a3 := hat 3 [] (by decide)
      rw [hmo] at a3
      have a0 := hat 0 [.lst C] (by decide)
      have a1 := hat 1 [.lst C] (by decide)
      have a2 := hat 2 [.lst C] (by decide)
      refine ⟨t, ?_, by omega, by omega⟩
      rw [runF_eq]
      show finR h (b_l_built (callF g n) g [some (.sl (xs.map .int)), none, none, none, none, none] h) = _
      rw [hX]
      unfold b_l_built
      simp only [sSeq_ap, z1, z2, thenS_nx]
      simp [q2, a3, hC, lC, a0, ixm, a1, mdd, a2, r]
      exact finish_app t
    · have q2' : (md == 2) = false := by simpa using q2
      by_cases q3 : md = 3
      · obtain ⟨t, r, s1, s2⟩ := bushy_ok (g := g) (n := n) (by omega) ds db (h ++ [.lst (ds.map .int)]) e
        refine ⟨t, ?_, by omega, by omega⟩
        rw [runF_eq]
        show finR h (b_l_built (callF g n) g [some (.sl (xs.map .int)), none, none, none, none, none] h) = _
        rw [hX]
        unfold b_l_built
        simp only [sSeq_ap, z1, z2, thenS_nx]
        simp [q3, r]
        exact finish_app t
      · have q3' : (md == 3) = false := by simpa using q3
        obtain ⟨st, hst⟩ : ∃ st, atZ xs 0 / 8 % 5 = st := ⟨_, rfl⟩
        obtain ⟨us, hus⟩ : ∃ us, ds.take 15 = us := ⟨_, rfl⟩
        have lus : us.length ≤ 15 := by rw [← hus, List.length_take]; omega
        have dus : ∀ d ∈ us, 0 ≤ d := fun d hd => (db d (List.mem_of_mem_take (hus ▸ hd))).1
        have sl : slD (.ref h.length) none (some 15) (h ++ [O.lst (ds.map .int)]) = .ok (.ref (h.length + 1)) (h ++ [O.lst (ds.map D.int), .lst (us.map .int)]) := by
          rw [slD_ref none (some 15) e, show (some (15 : Int)) = some ((15 : Nat) : Int) from rfl, cutL_map, cutL_take, hus]; simp
        obtain ⟨t, rr, h', r, sz, G⟩ := term_ok g (n := n) (by omega) st us (by omega) dus (h ++ [O.lst (ds.map D.int), .lst (us.map .int)]) (dr := h.length + 1) (by rw [get_app2]; rfl)
        obtain ⟨l, hl⟩ := gw_app G
        have hh := high_le t
        refine ⟨t, ?_, by omega, by omega⟩
        rw [runF_eq]
        show finR h (b_l_built (callF g n) g [some (.sl (xs.map .int)), none, none, none, none, none] h) = _
        rw [hX]
        unfold b_l_built
        simp only [sSeq_ap, z1, z2, thenS_nx]
        simp [q1, q2', q3', sl]
        rw [← hX]
        simp [hc, hst, r]
        rw [hl, List.append_assoc]
        exact finish_app t
theorem law_true (xs : List Int) (hxs : xs.length ≤ 63) : ∃ g h, callF g 230 .f_law [.sl (xs.map .int)] [] = .ok (.bl true) h := by
  refine ⟨10001, ?_⟩
  show ∃ h, runF 5 (b_f_law (callF 10001 229) 10001) _ [] = _
  rw [runF_eq]
  obtain ⟨X, hX⟩ : ∃ X, some (D.sl (xs.map .int)) = X := ⟨_, rfl⟩
  obtain ⟨t, b1, th, ts⟩ := built_ok (g := 10001) (n := 229) (by decide) xs []
  have z1 : z_f_law_1 (callF 10001 229) 10001 [X, none, none, none, none] [] = .nx [X, some t.d, none, none, none] [] := by
    rw [← hX]; simp [z_f_law_1, b1]
  have so := strings_ok (g := 10001) t 229 (by omega) (by omega) []
  obtain ⟨ds, da, db, dc⟩ := digits_ok 10001 [.lst ((nms t).map .str)] (n := 229) (by decide) (atZ xs 2) 2 11 (by decide)
  have hc : ∀ (k : Int) (h : Hst), 0 ≤ k → callF 10001 229 .l_cell [.sl (xs.map .int), .int k] h = .ok (.int (atZ xs k)) h := fun k h hk => cell_ok (by decide) xs k hk
  have np := nms_pos t
  have nl := nms_len t
  obtain ⟨vs, lv, cv⟩ := changed_ok (g := 10001) (n := 229) (h := [.lst ((nms t).map .str), .lst (ds.map .int)]) (by decide) (nms t) np (by omega) ds (ra := 0) (rd := 1) rfl rfl db
  have z2 : z_f_law_2 (callF 10001 229) 10001 [X, some t.d, none, none, none] [] = .nx [X, some t.d, some (.ref 2), none, none] [.lst ((nms t).map .str), .lst (ds.map .int), .lst (vs.map .str)] := by
    have so' : callF 10001 229 .l_strings [t.d] [] = .ok (.ref 0) [.lst ((nms t).map .str)] := by simpa using so
    have dc' : callF 10001 229 .l_digits [.int (atZ xs 2), .int 11, .int 2] [.lst ((nms t).map .str)] = .ok (.ref 1) [.lst ((nms t).map .str), .lst (ds.map .int)] := by simpa using dc
    have cv' : callF 10001 229 .l_changed [.ref 0, .ref 1] [.lst ((nms t).map .str), .lst (ds.map .int)] = .ok (.ref 2) [.lst ((nms t).map .str), .lst (ds.map .int), .lst (vs.map .str)] := by simpa using cv
    rw [← hX]; simp [z_f_law_2, so', hc, dc', cv']
  obtain ⟨H3, t2, z3, th2, ts2⟩ : ∃ (H3 : Hst) (t2 : Tm), z_f_law_3 (callF 10001 229) 10001 [X, some t.d, some (.ref 2), none, none] [.lst ((nms t).map .str), .lst (ds.map .int), .lst (vs.map .str)] = .nx [X, some t.d, some (.ref 2), some t2.d, none] H3 ∧ t2.high = t.high ∧ t2.sub.length = t.sub.length := by
    obtain ⟨t2, r, h1, h2⟩ := dressed_ok (g := 10001) 3 t 229 (by omega) vs [.lst ((nms t).map .str), .lst (ds.map .int), .lst (vs.map .str), .lst (vs.map .str)] rfl (by omega)
    refine ⟨([O.lst ((nms t).map .str), .lst (ds.map .int), .lst (vs.map .str), .lst (vs.map .str)] : Hst).set 3 (.lst ((vs.drop (nms t).length).map .str)), t2, ?_, h1, h2⟩
    have lc : listC [.ref 2] [O.lst ((nms t).map D.str), .lst (ds.map .int), .lst (vs.map .str)] = .ok (.ref 3) [.lst ((nms t).map .str), .lst (ds.map .int), .lst (vs.map .str), .lst (vs.map .str)] := by rw [listC_ref (s := vs.map D.str) rfl]; rfl
    simp only [z_f_law_3, sSet_ap, vF_ap, aCons_ap, aNil_ap, vVar_ap, vCall_ap, List.getElem?_cons_succ, List.getElem?_cons_zero, bind_ok, lc, List.length_cons, List.length_nil, Nat.reduceAdd, if_true, r, bindS_ok, List.set_cons_succ, List.set_cons_zero]
  obtain ⟨en4, h4, l4, _⟩ := forL_end (chk := .some (H3.length, [t.d, t2.d, t.d])) (g := gNm 4) (b := y_f_law_1 (callF 10001 229) 10001) [t.d, t2.d, t.d]
    (fun i en h' => (∃ x4 : Option D, en = [X, some t.d, some (.ref 2), some t2.d, x4]) ∧ ∃ l, h' = H3 ++ .lst [t.d, t2.d, t.d] :: l) [X, some t.d, some (.ref 2), some t2.d, none] (H3 ++ [.lst [t.d, t2.d, t.d]]) ⟨⟨_, rfl⟩, [], rfl⟩
    (fun i en h' _ ⟨_, l, q⟩ => by rw [q, Chk.ok, get_app]; rfl)
    (fun i x en h' hx ⟨⟨x4, q1⟩, l, q2⟩ => by
      subst q1
      rw [q2]
      refine ⟨_, rfl, ?_⟩
      have : ∃ u : Tm, x = u.d ∧ u.high ≤ 200 ∧ u.sub.length ≤ 4000 := by
        match i, hx with
        | 0, hx => exact ⟨t, (Option.some.inj hx).symm, by omega, by omega⟩
        | 1, hx => exact ⟨t2, (Option.some.inj hx).symm, by omega, by omega⟩
        | 2, hx => exact ⟨t, (Option.some.inj hx).symm, by omega, by omega⟩
        | i + 3, hx => simp at hx
      obtain ⟨u, rfl, uh, us⟩ := this
      obtain ⟨l2, y⟩ := ask_ok u uh us X (some t.d) (some (.ref 2)) (some t2.d) (H3 ++ O.lst [t.d, t2.d, t.d] :: l)
      show (y_f_law_1 (callF 10001 229) 10001 [X, some t.d, some (.ref 2), some t2.d, some u.d] (H3 ++ O.lst [t.d, t2.d, t.d] :: l)).sat _ _
      rw [y]
      exact ⟨⟨_, rfl⟩, l ++ l2, by simp⟩)
  have z4 : z_f_law_4 (callF 10001 229) 10001 [X, some t.d, some (.ref 2), some t2.d, none] H3 = .nx en4 h4 := by
    have e : (H3 ++ [O.lst [t.d, t2.d, t.d]])[H3.length]? = some (.lst [t.d, t2.d, t.d]) := by rw [get_app]; rfl
    simp [z_f_law_4, iterD_ref e]
    exact l4
  have z5 : z_f_law_5 (callF 10001 229) 10001 en4 h4 = .rt (.bl true) h4 := by simp [z_f_law_5]
  show ∃ h, finR [] (b_f_law (callF 10001 229) 10001 [some (.sl (xs.map .int)), none, none, none, none] []) = _
  rw [hX]
  unfold b_f_law
  simp only [sSeq_ap, z1, z2, z3, z4, z5, thenS_nx, finR_rt]
  exact finish_bl _ _ _
end
end Mi

open PySem PySem.W PySem.Calls PyProof.Rows
set_option maxHeartbeats 0 in
theorem PySem.Challenge.cw_drawnonce_k01_first_fault_of_a_term_holds : PySem.Challenge.rw_drawnonce_k01_first_fault_of_a_term.Holds := by
  w_on; o_law
  refine HandSHeadRun.head_any (r := OpenLaw.row PySem.Challenge.rw_drawnonce_k01_first_fault_of_a_term) (q := view (OpenLaw.row PySem.Challenge.rw_drawnonce_k01_first_fault_of_a_term).prog [40]) (H := Mi.hkL) (ob := Mi.obL) (M := 6000) (loose := Mi.looseL) (d := HandSHeadRun.topDef (OpenLaw.row PySem.Challenge.rw_drawnonce_k01_first_fault_of_a_term).prog 40) (kwd := []) Mi.obL_eq
    (by kernel_rfl) (fun s => by kernel_rfl) Mi.runL (by kernel_rfl) (by kernel_rfl) (by kernel_rfl) (by rfl) (by first | assumption | decide +kernel) (by decide +kernel) ⟨rfl, rfl, rfl, rfl, rfl, by decide +kernel⟩ ?hw ?hc
  case hw => w_witness2
  case hc =>
    refine L2.walk_ofE (l := PySem.Challenge.rw_drawnonce_k01_first_fault_of_a_term) (n := 63) (k := 230) (x := "script") rfl (by decide) (by kernel_rfl) ⟨rfl, by decide, by decide⟩ ?F (CX := L2.CX0) (fun _ _ _ _ z => z)
    intro w mg fa h Y G hmg0
    obtain ⟨K, KX, c⟩ := Y
    have T := Mi.top_of KX G c
    have hmg : mg ("law" : PySem.Str) = some (.ref fa) := by
      have e : (HandSHeadRun.topDef (OpenLaw.row PySem.Challenge.rw_drawnonce_k01_first_fault_of_a_term).prog 40).name = ("law" : PySem.Str) := by kernel_rfl
      rw [← e]
      exact hmg0
    have hfa : fa = He.fAd K Mi.d_f_law.at_ := PySem.Value.ref.inj (Option.some.inj (hmg.symm.trans T.f_f_law))
    obtain ⟨fd, hF⟩ := T.t_f_law
    obtain ⟨sp, h1, h2⟩ := Mi.law_ok (P := (PySem.Challenge.rw_drawnonce_k01_first_fault_of_a_term).prog) (w := w) (mg := mg) (n := 230) (d := Mi.d_f_law) (F := fun g => Mi.Run.callF g 230 .f_law) hF (fun base g => Mi.all_ok g T 230 .f_law) rfl Mi.law_true
    refine ⟨K, fd, sp, KX, fun s v => L2.FunD.bindsA (ps := ["script"]) hF (fun _ _ _ _ _ _ us hl => match us, hl with | [_], _ => rfl) s [v] rfl, h1, fun base _ _ => ?_⟩
    rw [hfa]
    exact h2 base



