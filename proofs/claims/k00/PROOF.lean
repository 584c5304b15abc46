import PyProof.Rows.All
import Wide.All
import OpenK.AllK
import Wide.FinOn
import KE.KStateDown
import HandS.ForMost
import HandS.ForExc
import HandS.Defaults
import HandS.CallSlots
import HandS.TupAny
import HandS.Flow
import HandS.HeadHook2
import HandS.HeadEnd
import HandS.Head2
import HandS.Head3
import HandS.Wide
import HandS.IsInst
import HandS.Style
import PySem.Challenge.RW_drawnonce_k00_fresh_names
set_option Elab.async false
set_option linter.all false
set_option maxRecDepth 100000
/-! The small language: values, heap, runs; and how a run of it stands for a run of the model. -/
namespace Mi
open PySem PySem.Spec PyProof.Rows L2

/-! ### values and objects of the small language -/
inductive D where
  | non | bl (b : Bool) | int (i : Int) | str (s : List Nat) | tup (xs : List D) | sl (xs : List D) | ref (n : Nat)
mutual
def D.dec : (a b : D) → Decidable (a = b)
  | .non, .non => .isTrue rfl
  | .bl a, .bl b => if h : a = b then .isTrue (by rw [h]) else .isFalse (fun e => h (D.bl.inj e))
  | .int a, .int b => if h : a = b then .isTrue (by rw [h]) else .isFalse (fun e => h (D.int.inj e))
  | .str a, .str b => if h : a = b then .isTrue (by rw [h]) else .isFalse (fun e => h (D.str.inj e))
  | .ref a, .ref b => if h : a = b then .isTrue (by rw [h]) else .isFalse (fun e => h (D.ref.inj e))
  | .tup a, .tup b => match D.decL a b with
    | .isTrue h => .isTrue (by rw [h])
    | .isFalse h => .isFalse (fun e => h (D.tup.inj e))
  | .sl a, .sl b => match D.decL a b with
    | .isTrue h => .isTrue (by rw [h])
    | .isFalse h => .isFalse (fun e => h (D.sl.inj e))
  | .non, .bl _ => .isFalse (by intro e; cases e) | .non, .int _ => .isFalse (by intro e; cases e) | .non, .str _ => .isFalse (by intro e; cases e) | .non, .tup _ => .isFalse (by intro e; cases e) | .non, .sl _ => .isFalse (by intro e; cases e) | .non, .ref _ => .isFalse (by intro e; cases e)
  | .bl _, .non => .isFalse (by intro e; cases e) | .bl _, .int _ => .isFalse (by intro e; cases e) | .bl _, .str _ => .isFalse (by intro e; cases e) | .bl _, .tup _ => .isFalse (by intro e; cases e) | .bl _, .sl _ => .isFalse (by intro e; cases e) | .bl _, .ref _ => .isFalse (by intro e; cases e)
  | .int _, .non => .isFalse (by intro e; cases e) | .int _, .bl _ => .isFalse (by intro e; cases e) | .int _, .str _ => .isFalse (by intro e; cases e) | .int _, .tup _ => .isFalse (by intro e; cases e) | .int _, .sl _ => .isFalse (by intro e; cases e) | .int _, .ref _ => .isFalse (by intro e; cases e)
  | .str _, .non => .isFalse (by intro e; cases e) | .str _, .bl _ => .isFalse (by intro e; cases e) | .str _, .int _ => .isFalse (by intro e; cases e) | .str _, .tup _ => .isFalse (by intro e; cases e) | .str _, .sl _ => .isFalse (by intro e; cases e) | .str _, .ref _ => .isFalse (by intro e; cases e)
  | .tup _, .non => .isFalse (by intro e; cases e) | .tup _, .bl _ => .isFalse (by intro e; cases e) | .tup _, .int _ => .isFalse (by intro e; cases e) | .tup _, .str _ => .isFalse (by intro e; cases e) | .tup _, .sl _ => .isFalse (by intro e; cases e) | .tup _, .ref _ => .isFalse (by intro e; cases e)
  | .sl _, .non => .isFalse (by intro e; cases e) | .sl _, .bl _ => .isFalse (by intro e; cases e) | .sl _, .int _ => .isFalse (by intro e; cases e) | .sl _, .str _ => .isFalse (by intro e; cases e) | .sl _, .tup _ => .isFalse (by intro e; cases e) | .sl _, .ref _ => .isFalse (by intro e; cases e)
  | .ref _, .non => .isFalse (by intro e; cases e) | .ref _, .bl _ => .isFalse (by intro e; cases e) | .ref _, .int _ => .isFalse (by intro e; cases e) | .ref _, .str _ => .isFalse (by intro e; cases e) | .ref _, .tup _ => .isFalse (by intro e; cases e) | .ref _, .sl _ => .isFalse (by intro e; cases e)
def D.decL : (a b : List D) → Decidable (a = b)
  | [], [] => .isTrue rfl
  | [], _ :: _ => .isFalse (by intro e; cases e)
  | _ :: _, [] => .isFalse (by intro e; cases e)
  | x :: xs, y :: ys => match D.dec x y, D.decL xs ys with
    | .isTrue h, .isTrue g => .isTrue (by rw [h, g])
    | .isFalse h, _ => .isFalse (fun e => h (List.cons.inj e).1)
    | _, .isFalse g => .isFalse (fun e => g (List.cons.inj e).2)
end
instance : DecidableEq D := D.dec

inductive O where
  | lst (xs : List D)
  | dic (tk : Bool) (kvs : List (D × D))
  | set (ks : List D)
  | ins (c : Str) (fs : List (Str × D))
  deriving DecidableEq

/-- an exception: its class, its fields -/
structure Ex where
  cls : Str
  fs : List (Str × D)
abbrev Hst := List O
abbrev En := List (Option D)
inductive Res (α : Type) where
  | ok (a : α) (h : Hst)
  | err (x : Ex) (h : Hst)
  | bad
def Res.bind {α β : Type} (r : Res α) (f : α → Hst → Res β) : Res β := match r with
  | .ok a h => f a h
  | .err x h => .err x h
  | .bad => .bad
inductive SR where
  | nx (en : En) (h : Hst)
  | rt (v : D) (h : Hst)
  | bk (en : En) (h : Hst)
  | ct (en : En) (h : Hst)
  | err (x : Ex) (en : En) (h : Hst)
  | bad
abbrev Ev := En → Hst → Res D
abbrev Evs := En → Hst → Res (List D)
abbrev EvT := En → Hst → Res Bool
abbrev Sm := En → Hst → SR
/-- what a loop walks must stay as it is -/
abbrev Chk := Option (Nat × List D)
abbrev Chk.ok : Chk → Hst → Prop
  | none, _ => True
  | some (n, xs), h => h[n]? = some (.lst xs)
instance (c : Chk) (h : Hst) : Decidable (c.ok h) := by
  cases c with
  | none => exact inferInstanceAs (Decidable True)
  | some p => exact inferInstanceAs (Decidable (_ = _))
abbrev EvI := En → Hst → Res (List D × Chk)

/-! ### how they stand for the layer's values -/
/-- a list that nobody writes -/
def SqI (K : PySem.W.Frag) (H : Hp) (a : Addr) (xs : List V) : Prop :=
  (∃ o, H a = some (.frz o (.lst xs))) ∨
    ∃ (o : Obj) (its : Array Value) (n : Nat), K.lookup a = some o ∧ o.cls = .type "list" ∧ o.dict = none ∧ o.data = .seq its n ∧ its.size ≤ sizeLine ∧ Vals xs its.toList
theorem SqI.seq {K : PySem.W.Frag} {H : Hp} {a : Addr} {xs : List V} (h : SqI K H a xs) : SqL K H a xs := by
  rcases h with h | h
  · exact .inl (.inr h)
  · exact .inr h

/-- a text that may stand in the heap -/
structure StrB (s : List Nat) : Prop where
  len : s.length ≤ sizeLine
  cp : ∀ c ∈ s, c < 1114112
mutual
inductive RD (K : PySem.W.Frag) (m : List Addr) (H : Hp) : D → V → Prop
  | non : RD K m H .non .non
  | bl (b : Bool) : RD K m H (.bl b) (.bl b)
  | int (i : Int) : RD K m H (.int i) (.int i)
  | str {s : List Nat} : StrB s → RD K m H (.str s) (.str ⟨s.toArray⟩)
  | tup {ds : List D} {vs : List V} {a : Addr} : ds.length ≤ sizeLine → H a = some (.tup vs) → RDs K m H ds vs → RD K m H (.tup ds) (.ref a)
  | sl {ds : List D} {vs : List V} {a : Addr} : ds.length ≤ sizeLine → SqI K H a vs → RDs K m H ds vs → RD K m H (.sl ds) (.ref a)
  | ref {n : Nat} {a : Addr} : m[n]? = some a → RD K m H (.ref n) (.ref a)
inductive RDs (K : PySem.W.Frag) (m : List Addr) (H : Hp) : List D → List V → Prop
  | nil : RDs K m H [] []
  | cons {d : D} {ds : List D} {v : V} {vs : List V} : RD K m H d v → RDs K m H ds vs → RDs K m H (d :: ds) (v :: vs)
end

/-- what values lean on -/
structure Ex0 (K : PySem.W.Frag) (m : List Addr) (H : Hp) (m' : List Addr) (H' : Hp) : Prop where
  pre : ∀ (n : Nat) (a : Addr), m[n]? = some a → m'[n]? = some a
  tup : ∀ a vs, H a = some (.tup vs) → H' a = some (.tup vs)
  sl : ∀ a vs, SqI K H a vs → SqI K H' a vs
/-- from one state to a later one -/
structure Ext (K : PySem.W.Frag) (m : List Addr) (H : Hp) (m' : List Addr) (H' : Hp) : Prop where
  pre : ∀ (n : Nat) (a : Addr), m[n]? = some a → m'[n]? = some a
  tup : ∀ a vs, H a = some (.tup vs) → H' a = some (.tup vs)
  sl : ∀ a vs, SqI K H a vs → SqI K H' a vs
  /-- what is no object of the small language stays -/
  frm : ∀ a o, H a = some o → a ∉ m → H' a = some o
  new : ∀ a, a ∈ m' → a ∈ m ∨ H a = none

instance {K : PySem.W.Frag} {m m' : List Addr} {H H' : Hp} : Coe (Ext K m H m' H') (Ex0 K m H m' H') := ⟨fun x => ⟨x.pre, x.tup, x.sl⟩⟩
section
variable {K : PySem.W.Frag} {m m1 m2 : List Addr} {H H1 H2 : Hp}
theorem Ext.e (x : Ext K m H m1 H1) : Ex0 K m H m1 H1 := ⟨x.pre, x.tup, x.sl⟩
theorem Ext.refl : Ext K m H m H := ⟨fun _ _ h => h, fun _ _ h => h, fun _ _ h => h, fun _ _ h _ => h, fun _ h => .inl h⟩
theorem Ext.trans (a : Ext K m H m1 H1) (b : Ext K m1 H1 m2 H2) : Ext K m H m2 H2 :=
  ⟨fun n c h => b.pre n c (a.pre n c h), fun c vs h => b.tup c vs (a.tup c vs h), fun c vs h => b.sl c vs (a.sl c vs h), fun c o h n => b.frm c o (a.frm c o h n) fun z => (a.new c z).elim n (fun q => by rw [h] at q; cases q), fun c h => by
    rcases b.new c h with q | q
    · exact a.new c q
    · cases e : H c with
      | none => exact .inr rfl
      | some o =>
        by_cases hm : c ∈ m
        · exact .inl hm
        · rw [a.frm c o e hm] at q; cases q⟩
theorem Ext.upd0 {a : Addr} {o : HO} (h : H a = none ∨ Mut (H a)) : (∀ b vs, H b = some (.tup vs) → upd H a o b = some (.tup vs)) ∧ ∀ b vs, SqI K H b vs → SqI K (upd H a o) b vs := by
  have ne : ∀ b u, H b = some u → ¬ Mut (some u) → b ≠ a := fun b u e nm z => by
    subst z
    rcases h with h | h
    · rw [h] at e; cases e
    · rw [e] at h; exact nm h
  refine ⟨fun b vs q => ?_, fun b vs q => ?_⟩
  · rw [upd_ne (ne b _ q fun z => z)]; exact q
  · rcases q with ⟨u, q⟩ | q
    · exact .inl ⟨u, by rw [upd_ne (ne b _ q fun z => z)]; exact q⟩
    · exact .inr q
/-- a place that is free is written -/
theorem Ext.fresh {a : Addr} {o : HO} (h : H a = none) : Ext K m H m (upd H a o) :=
  ⟨fun _ _ q => q, (Ext.upd0 (K := K) (.inl h)).1, (Ext.upd0 (.inl h)).2, fun b u e _ => by rw [upd_ne (fun z => by subst z; rw [h] at e; cases e)]; exact e, fun _ q => .inl q⟩
/-- .. and becomes an object of the small language -/
theorem Ext.push {a : Addr} {o : HO} (h : H a = none) : Ext K m H (m ++ [a]) (upd H a o) :=
  ⟨fun n b e => by rw [List.getElem?_append_left (List.getElem?_eq_some_iff.mp e).1]; exact e, (Ext.upd0 (K := K) (.inl h)).1, (Ext.upd0 (.inl h)).2, fun b u e _ => by rw [upd_ne (fun z => by subst z; rw [h] at e; cases e)]; exact e, fun b q => by
    rcases List.mem_append.mp q with q | q
    · exact .inl q
    · have : b = a := by simpa using q
      subst this
      exact .inr h⟩
/-- an object of the small language is written -/
theorem Ext.write {a : Addr} {o : HO} {n : Nat} (ha : m[n]? = some a) (h : Mut (H a)) : Ext K m H m (upd H a o) :=
  ⟨fun _ _ q => q, (Ext.upd0 (K := K) (.inr h)).1, (Ext.upd0 (.inr h)).2, fun b u e nm => by rw [upd_ne (fun z => by subst z; exact nm (List.mem_of_getElem? ha))]; exact e, fun _ q => .inl q⟩
mutual
theorem RD.mono (x : Ex0 K m H m1 H1) : ∀ {d : D} {v : V}, RD K m H d v → RD K m1 H1 d v
  | _, _, .non => .non
  | _, _, .bl b => .bl b
  | _, _, .int i => .int i
  | _, _, .str b => .str b
  | _, _, .tup l h r => .tup l (x.tup _ _ h) (RDs.mono x r)
  | _, _, .sl l h r => .sl l (x.sl _ _ h) (RDs.mono x r)
  | _, _, .ref h => .ref (x.pre _ _ h)
theorem RDs.mono (x : Ex0 K m H m1 H1) : ∀ {ds : List D} {vs : List V}, RDs K m H ds vs → RDs K m1 H1 ds vs
  | _, _, .nil => .nil
  | _, _, .cons r rs => .cons (RD.mono x r) (RDs.mono x rs)
end
theorem RDs.length : ∀ {ds : List D} {vs : List V}, RDs K m H ds vs → ds.length = vs.length
  | _, _, .nil => rfl
  | _, _, .cons _ rs => congrArg Nat.succ rs.length
theorem RDs.get : ∀ {ds : List D} {vs : List V}, RDs K m H ds vs → ∀ {i : Nat} {d : D}, ds[i]? = some d → ∃ v, vs[i]? = some v ∧ RD K m H d v
  | _, _, .nil, _, _, e => by simp at e
  | _, _, .cons r _, 0, _, e => by simp at e; subst e; exact ⟨_, rfl, r⟩
  | _, _, .cons _ rs, i + 1, _, e => by
    obtain ⟨v, h1, h2⟩ := rs.get (i := i) (by simpa using e)
    exact ⟨v, by simpa using h1, h2⟩
theorem RDs.getV : ∀ {ds : List D} {vs : List V}, RDs K m H ds vs → ∀ {i : Nat} {v : V}, vs[i]? = some v → ∃ d, ds[i]? = some d ∧ RD K m H d v
  | _, _, .nil, _, _, e => by simp at e
  | _, _, .cons r _, 0, _, e => by simp at e; subst e; exact ⟨_, rfl, r⟩
  | _, _, .cons _ rs, i + 1, _, e => by
    obtain ⟨v, h1, h2⟩ := rs.getV (i := i) (by simpa using e)
    exact ⟨v, by simpa using h1, h2⟩
theorem RDs.append : ∀ {ds es : List D} {vs ws : List V}, RDs K m H ds vs → RDs K m H es ws → RDs K m H (ds ++ es) (vs ++ ws)
  | _, _, _, _, .nil, s => s
  | _, _, _, _, .cons r rs, s => .cons r (rs.append s)
theorem RDs.one {d : D} {v : V} (r : RD K m H d v) : RDs K m H [d] [v] := .cons r .nil
theorem RDs.drop : ∀ {ds : List D} {vs : List V} (n : Nat), RDs K m H ds vs → RDs K m H (ds.drop n) (vs.drop n)
  | _, _, 0, r => r
  | _, _, _ + 1, .nil => .nil
  | _, _, n + 1, .cons _ rs => RDs.drop n rs
theorem RDs.take : ∀ {ds : List D} {vs : List V} (n : Nat), RDs K m H ds vs → RDs K m H (ds.take n) (vs.take n)
  | _, _, 0, _ => .nil
  | _, _, _ + 1, .nil => .nil
  | _, _, n + 1, .cons r rs => .cons r (RDs.take n rs)
theorem RDs.set {d : D} {v : V} (r : RD K m H d v) : ∀ {ds : List D} {vs : List V} (i : Nat), RDs K m H ds vs → RDs K m H (ds.set i d) (vs.set i v)
  | _, _, _, .nil => .nil
  | _, _, 0, .cons _ rs => .cons r rs
  | _, _, i + 1, .cons q rs => .cons q (RDs.set r i rs)
theorem RDs.eraseIdx : ∀ {ds : List D} {vs : List V} (i : Nat), RDs K m H ds vs → RDs K m H (ds.eraseIdx i) (vs.eraseIdx i)
  | _, _, _, .nil => .nil
  | _, _, 0, .cons _ rs => rs
  | _, _, i + 1, .cons q rs => .cons q (RDs.eraseIdx i rs)
theorem RDs.reverse {ds : List D} {vs : List V} (r : RDs K m H ds vs) : RDs K m H ds.reverse vs.reverse := by
  induction ds generalizing vs with
  | nil => cases r; exact .nil
  | cons d ds ih =>
    cases r with
    | cons r rs =>
      rw [List.reverse_cons, List.reverse_cons]
      exact (ih rs).append (.one r)
theorem RDs.dropLast {ds : List D} {vs : List V} (r : RDs K m H ds vs) : RDs K m H ds.dropLast vs.dropLast := by
  rw [List.dropLast_eq_take, List.dropLast_eq_take, r.length]
  exact r.take _
end

/-! ### objects -/
def keyD : D → Option Key
  | .int i => some (.inl i)
  | .str s => some (.inr ⟨s.toArray⟩)
  | _ => none
def keysD : List D → Option (List Key)
  | [] => some []
  | d :: ds => match keyD d, keysD ds with
    | some k, some ks => some (k :: ks)
    | _, _ => none
def tkeyD : D → Option (List Key)
  | .tup ds => keysD ds
  | _ => none
inductive RKV (K : PySem.W.Frag) (m : List Addr) (H : Hp) {κ : Type} (kd : D → Option κ) : List (D × D) → List (κ × V) → Prop
  | nil : RKV K m H kd [] []
  | cons {k d : D} {c : κ} {v : V} {kvs : List (D × D)} {ws : List (κ × V)} : kd k = some c → RD K m H d v → RKV K m H kd kvs ws → RKV K m H kd ((k, d) :: kvs) ((c, v) :: ws)
inductive RFs (K : PySem.W.Frag) (m : List Addr) (H : Hp) : List (Str × D) → List (Str × V) → Prop
  | nil : RFs K m H [] []
  | cons {f : Str} {d : D} {v : V} {fs : List (Str × D)} {ws : List (Str × V)} : RD K m H d v → RFs K m H fs ws → RFs K m H ((f, d) :: fs) ((f, v) :: ws)
section
variable {K : PySem.W.Frag} {m m1 m2 : List Addr} {H H1 H2 : Hp}
theorem RKV.mono {κ : Type} {kd : D → Option κ} (x : Ex0 K m H m1 H1) : ∀ {kvs : List (D × D)} {ws : List (κ × V)}, RKV K m H kd kvs ws → RKV K m1 H1 kd kvs ws
  | _, _, .nil => .nil
  | _, _, .cons e r rs => .cons e (r.mono x) (RKV.mono x rs)
theorem RFs.mono (x : Ex0 K m H m1 H1) : ∀ {fs : List (Str × D)} {ws : List (Str × V)}, RFs K m H fs ws → RFs K m1 H1 fs ws
  | _, _, .nil => .nil
  | _, _, .cons r rs => .cons (r.mono x) (RFs.mono x rs)
theorem RFs.length : ∀ {fs : List (Str × D)} {ws : List (Str × V)}, RFs K m H fs ws → fs.length = ws.length
  | _, _, .nil => rfl
  | _, _, .cons _ rs => congrArg Nat.succ (RFs.length rs)
/-- an object of the small language at an address -/
def RO (K : PySem.W.Frag) (m : List Addr) (H : Hp) (a : Addr) : O → Prop
  | .lst ds => ds.length ≤ sizeLine ∧ ∃ vs, H a = some (.lst vs) ∧ RDs K m H ds vs
  | .dic false kvs => ∃ ws : List (Key × V), H a = some (.dK ws) ∧ RKV K m H keyD kvs ws
  | .dic true kvs => ∃ ws : List (List Key × V), H a = some (.dT ws) ∧ RKV K m H tkeyD kvs ws
  | .set _ => False
  | .ins c fs => ∃ dx ws, H a = some (.ins (He.ga K c) dx ws) ∧ RFs K m H fs ws
/-- the heap -/
structure RH (K : PySem.W.Frag) (m : List Addr) (H : Hp) (h : Hst) : Prop where
  len : m.length = h.length
  nd : m.Nodup
  at_ : ∀ (n : Nat) (o : O), h[n]? = some o → ∃ a, m[n]? = some a ∧ RO K m H a o
theorem RO.here {a : Addr} {o : O} (r : RO K m H a o) : ∃ u, H a = some u ∧ Mut (some u) := by
  cases o with
  | lst ds => obtain ⟨_, vs, e, _⟩ := r; exact ⟨_, e, trivial⟩
  | dic b kvs =>
    cases b with
    | false => obtain ⟨ws, e, _⟩ := r; exact ⟨_, e, trivial⟩
    | true => obtain ⟨ws, e, _⟩ := r; exact ⟨_, e, trivial⟩
  | set ks => exact r.elim
  | ins c fs => obtain ⟨dx, ws, e, _⟩ := r; exact ⟨_, e, trivial⟩
/-- the object's own place stands as it is -/
theorem RO.mono {a : Addr} {o : O} (x : Ex0 K m H m1 H1) (e : H1 a = H a) (r : RO K m H a o) : RO K m1 H1 a o := by
  cases o with
  | lst ds => obtain ⟨l, vs, q, r⟩ := r; exact ⟨l, vs, by rw [e]; exact q, r.mono x⟩
  | dic b kvs =>
    cases b with
    | false => obtain ⟨ws, q, r⟩ := r; exact ⟨ws, by rw [e]; exact q, r.mono x⟩
    | true => obtain ⟨ws, q, r⟩ := r; exact ⟨ws, by rw [e]; exact q, r.mono x⟩
  | set ks => exact r.elim
  | ins c fs => obtain ⟨dx, ws, q, r⟩ := r; exact ⟨dx, ws, by rw [e]; exact q, r.mono x⟩
theorem RH.look {h : Hst} (R : RH K m H h) {n : Nat} {a : Addr} {o : O} (ha : m[n]? = some a) (e : h[n]? = some o) : RO K m H a o := by
  obtain ⟨b, hb, r⟩ := R.at_ n o e
  rw [ha] at hb; cases hb
  exact r
theorem RH.free {h : Hst} (R : RH K m H h) {p : Addr} (hp : H p = none) : p ∉ m := fun hm => by
  obtain ⟨n, hn⟩ := List.getElem?_of_mem hm
  have hl : n < h.length := by rw [← R.len]; exact (List.getElem?_eq_some_iff.mp hn).1
  obtain ⟨u, e, _⟩ := (R.look hn (List.getElem?_eq_getElem hl)).here
  rw [hp] at e; cases e
/-- an object at a new place -/
theorem RH.push {h : Hst} (R : RH K m H h) {p : Addr} {u : HO} {o : O} (hp : H p = none) (r : RO K (m ++ [p]) (upd H p u) p o) : RH K (m ++ [p]) (upd H p u) (h ++ [o]) := by
  refine ⟨by simp [R.len], ?_, fun n o' e => ?_⟩
  · rw [List.nodup_append]
    refine ⟨R.nd, by simp, fun b hb c hc => ?_⟩
    have : c = p := by simpa using hc
    subst this
    rintro rfl
    exact R.free hp hb
  · by_cases hn : n < h.length
    · rw [List.getElem?_append_left hn] at e
      obtain ⟨a, ha, ro⟩ := R.at_ n o' e
      refine ⟨a, by rw [List.getElem?_append_left (by rw [R.len]; exact hn)]; exact ha, ro.mono (Ext.push hp).e (upd_ne ?_)⟩
      rintro rfl
      exact R.free hp (List.mem_of_getElem? ha)
    · have hl : n = h.length := by
        have := (List.getElem?_eq_some_iff.mp e).1
        simp at this
        omega
      subst hl
      rw [List.getElem?_concat_length] at e
      cases e
      exact ⟨p, by rw [← R.len, List.getElem?_concat_length], r⟩
/-- a place that is no object of the small language -/
theorem RH.other {h : Hst} (R : RH K m H h) {p : Addr} {u : HO} (hp : p ∉ m) (x : Ex0 K m H m (upd H p u)) : RH K m (upd H p u) h :=
  ⟨R.len, R.nd, fun n o e => by
    obtain ⟨a, ha, ro⟩ := R.at_ n o e
    refine ⟨a, ha, ro.mono x (upd_ne ?_)⟩
    rintro rfl
    exact hp (List.mem_of_getElem? ha)⟩
/-- a new place that is no object of the small language -/
theorem RH.laid {h : Hst} (R : RH K m H h) {p : Addr} {u : HO} (hp : H p = none) : RH K m (upd H p u) h :=
  ⟨R.len, R.nd, fun n o e => by
    obtain ⟨a, ha, ro⟩ := R.at_ n o e
    refine ⟨a, ha, ro.mono (Ext.fresh hp).e (upd_ne ?_)⟩
    rintro rfl
    exact R.free hp (List.mem_of_getElem? ha)⟩
/-- an object is written -/
theorem RH.write {h : Hst} (R : RH K m H h) {n : Nat} {a : Addr} {u : HO} {o : O} (ha : m[n]? = some a) (r : RO K m (upd H a u) a o) : RH K m (upd H a u) (h.set n o) := by
  have hl : n < h.length := by rw [← R.len]; exact (List.getElem?_eq_some_iff.mp ha).1
  have mu : Mut (H a) := by
    obtain ⟨u, e, q⟩ := (R.look ha (List.getElem?_eq_getElem hl)).here
    rw [e]; exact q
  refine ⟨by simp [R.len], R.nd, fun j o' e => ?_⟩
  by_cases hj : n = j
  · subst hj
    rw [List.getElem?_set_self hl] at e
    cases e
    exact ⟨a, ha, r⟩
  · rw [List.getElem?_set_ne hj] at e
    obtain ⟨b, hb, ro⟩ := R.at_ j o' e
    refine ⟨b, hb, ro.mono (Ext.write ha mu).e (upd_ne ?_)⟩
    rintro rfl
    exact hj ((List.getElem?_inj (List.getElem?_eq_some_iff.mp ha).1 R.nd).mp (by rw [ha, hb]))
/-- an object that stands becomes one of the small language -/
theorem RH.adopt {h : Hst} (R : RH K m H h) {p : Addr} {o : O} (hp : p ∉ m) (r : RO K (m ++ [p]) H p o) (x : Ex0 K m H (m ++ [p]) H) : RH K (m ++ [p]) H (h ++ [o]) := by
  refine ⟨by simp [R.len], ?_, fun n o' e => ?_⟩
  · rw [List.nodup_append]
    refine ⟨R.nd, by simp, fun b hb c hc => ?_⟩
    have : c = p := by simpa using hc
    subst this
    rintro rfl
    exact hp hb
  · by_cases hn : n < h.length
    · rw [List.getElem?_append_left hn] at e
      obtain ⟨a, ha, ro⟩ := R.at_ n o' e
      exact ⟨a, by rw [List.getElem?_append_left (by rw [R.len]; exact hn)]; exact ha, ro.mono x rfl⟩
    · have hl : n = h.length := by
        have := (List.getElem?_eq_some_iff.mp e).1
        simp at this
        omega
      subst hl
      rw [List.getElem?_concat_length] at e
      cases e
      exact ⟨p, by rw [← R.len, List.getElem?_concat_length], r⟩
mutual
/-- what was known at the start is known by the start's places -/
theorem RD.down {m0 : List Addr} {H0 : Hp} (x : ∀ (n : Nat) (a : Addr), m0[n]? = some a → m[n]? = some a) : ∀ {d : D} {v0 v : V}, RD K m0 H0 d v0 → RD K m H d v → RD K m0 H d v
  | _, _, _, .non, .non => .non
  | _, _, _, .bl b, .bl _ => .bl b
  | _, _, _, .int i, .int _ => .int i
  | _, _, _, .str b, .str _ => .str b
  | _, _, _, .tup _ _ r0, .tup l h r => .tup l h (RDs.down x r0 r)
  | _, _, _, .sl _ _ r0, .sl l h r => .sl l h (RDs.down x r0 r)
  | _, _, _, .ref h0, .ref h => .ref (by have := x _ _ h0; rw [h] at this; cases this; exact h0)
theorem RDs.down {m0 : List Addr} {H0 : Hp} (x : ∀ (n : Nat) (a : Addr), m0[n]? = some a → m[n]? = some a) : ∀ {ds : List D} {vs0 vs : List V}, RDs K m0 H0 ds vs0 → RDs K m H ds vs → RDs K m0 H ds vs
  | _, _, _, .nil, .nil => .nil
  | _, _, _, .cons a as, .cons b bs => .cons (RD.down x a b) (RDs.down x as bs)
end
mutual
theorem RD.up {m' : List Addr} (x : ∀ (n : Nat) (a : Addr), m[n]? = some a → m'[n]? = some a) : ∀ {d : D} {v : V}, RD K m H d v → RD K m' H d v
  | _, _, .non => .non
  | _, _, .bl b => .bl b
  | _, _, .int i => .int i
  | _, _, .str b => .str b
  | _, _, .tup l h r => .tup l h (RDs.up x r)
  | _, _, .sl l h r => .sl l h (RDs.up x r)
  | _, _, .ref h => .ref (x _ _ h)
theorem RDs.up {m' : List Addr} (x : ∀ (n : Nat) (a : Addr), m[n]? = some a → m'[n]? = some a) : ∀ {ds : List D} {vs : List V}, RDs K m H ds vs → RDs K m' H ds vs
  | _, _, .nil => .nil
  | _, _, .cons r rs => .cons (RD.up x r) (RDs.up x rs)
end
theorem RKV.up {m' : List Addr} {κ : Type} {kd : D → Option κ} (x : ∀ (n : Nat) (a : Addr), m[n]? = some a → m'[n]? = some a) : ∀ {kvs : List (D × D)} {ws : List (κ × V)}, RKV K m H kd kvs ws → RKV K m' H kd kvs ws
  | _, _, .nil => .nil
  | _, _, .cons e r rs => .cons e (r.up x) (RKV.up x rs)
theorem RFs.up {m' : List Addr} (x : ∀ (n : Nat) (a : Addr), m[n]? = some a → m'[n]? = some a) : ∀ {fs : List (Str × D)} {ws : List (Str × V)}, RFs K m H fs ws → RFs K m' H fs ws
  | _, _, .nil => .nil
  | _, _, .cons r rs => .cons (r.up x) (RFs.up x rs)
theorem RO.up {m' : List Addr} (x : ∀ (n : Nat) (a : Addr), m[n]? = some a → m'[n]? = some a) {a : Addr} {o : O} (r : RO K m H a o) : RO K m' H a o := by
  cases o with
  | lst ds => obtain ⟨l, vs, q, r⟩ := r; exact ⟨l, vs, q, r.up x⟩
  | dic b kvs =>
    cases b with
    | false => obtain ⟨ws, q, r⟩ := r; exact ⟨ws, q, r.up x⟩
    | true => obtain ⟨ws, q, r⟩ := r; exact ⟨ws, q, r.up x⟩
  | set ks => exact r.elim
  | ins c fs => obtain ⟨dx, ws, q, r⟩ := r; exact ⟨dx, ws, q, r.up x⟩
theorem RKV.down {κ : Type} {kd : D → Option κ} {m0 : List Addr} {H0 : Hp} (x : ∀ (n : Nat) (a : Addr), m0[n]? = some a → m[n]? = some a) : ∀ {kvs : List (D × D)} {w0 ws : List (κ × V)}, RKV K m0 H0 kd kvs w0 → RKV K m H kd kvs ws → RKV K m0 H kd kvs ws
  | _, _, _, .nil, .nil => .nil
  | _, _, _, .cons _ a as, .cons e b bs => .cons e (RD.down x a b) (RKV.down x as bs)
theorem RFs.down {m0 : List Addr} {H0 : Hp} (x : ∀ (n : Nat) (a : Addr), m0[n]? = some a → m[n]? = some a) : ∀ {fs : List (Str × D)} {w0 ws : List (Str × V)}, RFs K m0 H0 fs w0 → RFs K m H fs ws → RFs K m0 H fs ws
  | _, _, _, .nil, .nil => .nil
  | _, _, _, .cons a as, .cons b bs => .cons (RD.down x a b) (RFs.down x as bs)
theorem RO.down {m0 : List Addr} {H0 : Hp} (x : ∀ (n : Nat) (a : Addr), m0[n]? = some a → m[n]? = some a) {a : Addr} {o : O} (r0 : RO K m0 H0 a o) (r : RO K m H a o) : RO K m0 H a o := by
  cases o with
  | lst ds => obtain ⟨_, _, _, r0⟩ := r0; obtain ⟨l, vs, q, r⟩ := r; exact ⟨l, vs, q, r0.down x r⟩
  | dic b kvs =>
    cases b with
    | false => obtain ⟨_, _, r0⟩ := r0; obtain ⟨ws, q, r⟩ := r; exact ⟨ws, q, r0.down x r⟩
    | true => obtain ⟨_, _, r0⟩ := r0; obtain ⟨ws, q, r⟩ := r; exact ⟨ws, q, r0.down x r⟩
  | set ks => exact r.elim
  | ins c fs => obtain ⟨_, _, _, r0⟩ := r0; obtain ⟨dx, ws, q, r⟩ := r; exact ⟨dx, ws, q, r0.down x r⟩
/-- only the first objects, which are as they were -/
theorem RH.first {h h0 : Hst} {m0 : List Addr} {H0 : Hp} (R : RH K m H h) (R0 : RH K m0 H0 h0) (x : Ext K m0 H0 m H) (e : h.take h0.length = h0) : RH K m0 H h0 := by
  refine ⟨R0.len, R0.nd, fun j o q => ?_⟩
  obtain ⟨a, ha, r0⟩ := R0.at_ j o q
  have hj : j < h0.length := (List.getElem?_eq_some_iff.mp q).1
  have q' : h[j]? = some o := by
    rw [← e, List.getElem?_take, if_pos hj] at q
    exact q
  exact ⟨a, ha, r0.down x.pre (R.look (x.pre _ _ ha) q')⟩
/-! ### values that name no object -/
mutual
def D.noRef : D → Bool
  | .ref _ => false
  | .tup ds => D.noRefs ds
  | .sl ds => D.noRefs ds
  | _ => true
def D.noRefs : List D → Bool
  | [] => true
  | d :: ds => d.noRef && D.noRefs ds
end
mutual
theorem RD.any {m' : List Addr} : ∀ {d : D} {v : V}, d.noRef = true → RD K m H d v → RD K m' H d v
  | _, _, _, .non => .non
  | _, _, _, .bl b => .bl b
  | _, _, _, .int i => .int i
  | _, _, _, .str b => .str b
  | _, _, h, .tup l q r => .tup l q (RDs.any (by simpa [D.noRef] using h) r)
  | _, _, h, .sl l q r => .sl l q (RDs.any (by simpa [D.noRef] using h) r)
  | _, _, h, .ref _ => by simp [D.noRef] at h
theorem RDs.any {m' : List Addr} : ∀ {ds : List D} {vs : List V}, D.noRefs ds = true → RDs K m H ds vs → RDs K m' H ds vs
  | _, _, _, .nil => .nil
  | _, _, h, .cons r rs => by
    simp only [D.noRefs, Bool.and_eq_true] at h
    exact .cons (RD.any h.1 r) (RDs.any h.2 rs)
end
/-- an object whose values name no object -/
def O.flat : O → Bool
  | .lst ds => D.noRefs ds
  | _ => false
theorem RO.any {m' : List Addr} {a : Addr} {o : O} (f : o.flat = true) (r : RO K m H a o) : RO K m' H a o := by
  cases o with
  | lst ds => obtain ⟨l, vs, q, r⟩ := r; exact ⟨l, vs, q, r.any f⟩
  | dic b kvs => cases f
  | set ks => cases f
  | ins c fs => cases f
end
/-- behind a call: what is left of the heap. If the caller's objects are as they were, nothing but the answer is kept -/
def finish (h : Hst) (v : D) (h' : Hst) : Res D :=
  if h'.length = h.length then .ok v h'
  else if h'.take h.length = h then
    match v with
    | .ref n => if n < h.length then .ok v h else
        match h'[n]? with
        | some o => if o.flat = true then .ok (.ref h.length) (h ++ [o]) else .ok v h'
        | none => .ok v h'
    | v => if v.noRef = true then .ok v h else .ok v h'
  else .ok v h'
section
variable {K : PySem.W.Frag} {m m0 : List Addr} {H H0 : Hp} {h h0 : Hst} {d : D} {v : V}
theorem more {m : List Addr} (x : List Addr) : ∀ (n : Nat) (a : Addr), m[n]? = some a → (m ++ x)[n]? = some a := fun n a e => by
  rw [List.getElem?_append_left (List.getElem?_eq_some_iff.mp e).1]; exact e
theorem finish_ok (R0 : RH K m0 H0 h0) (x : Ext K m0 H0 m H) (R : RH K m H h) (r : RD K m H d v) :
    ∃ m' d' h', finish h0 d h = .ok d' h' ∧ Ext K m0 H0 m' H ∧ RH K m' H h' ∧ RD K m' H d' v := by
  have triv : ∃ m' d' h', Res.ok d h = .ok d' h' ∧ Ext K m0 H0 m' H ∧ RH K m' H h' ∧ RD K m' H d' v := ⟨m, d, h, rfl, x, R, r⟩
  have low : ∀ n a, m[n]? = some a → n < h0.length → m0[n]? = some a := fun n a e hn => by
    have hn' : n < m0.length := by rw [R0.len]; exact hn
    have q := x.pre n _ (List.getElem?_eq_getElem hn')
    rw [e] at q
    rw [List.getElem?_eq_getElem hn', ← Option.some.inj q]
  unfold finish
  split
  · exact triv
  · split
    · rename_i ht
      have R1 : RH K m0 H h0 := R.first R0 x ht
      have x1 : Ext K m0 H0 m0 H := ⟨fun _ _ q => q, x.tup, x.sl, x.frm, fun _ q => .inl q⟩
      split
      · rename_i n
        split
        · rename_i hn
          refine ⟨m0, _, _, rfl, x1, R1, ?_⟩
          cases r with
          | ref e => exact .ref (low _ _ e hn)
        · rename_i hn
          split
          · rename_i o ho
            split
            · rename_i hf
              cases r with
              | @ref _ a e =>
                have ro := R.look e ho
                have ha : a ∉ m0 := fun hm => by
                  obtain ⟨j, hj⟩ := List.getElem?_of_mem hm
                  have hj' := x.pre _ _ hj
                  have hjl : j < m0.length := (List.getElem?_eq_some_iff.mp hj).1
                  have : j = n := (List.getElem?_inj (List.getElem?_eq_some_iff.mp hj').1 R.nd).mp (by rw [hj', e])
                  have := R0.len
                  omega
                refine ⟨m0 ++ [a], _, _, rfl, ⟨more _, x.tup, x.sl, x.frm, fun b hb => ?_⟩, ⟨by simp [R0.len], ?_, fun j o' q => ?_⟩, .ref ?_⟩
                · rcases List.mem_append.mp hb with hb | hb
                  · exact .inl hb
                  · have : b = a := by simpa using hb
                    subst this
                    exact x.new b (List.mem_of_getElem? e)
                · rw [List.nodup_append]
                  refine ⟨R0.nd, by simp, fun b hb c hc => ?_⟩
                  have : c = a := by simpa using hc
                  subst this
                  rintro rfl
                  exact ha hb
                · by_cases hj : j < h0.length
                  · rw [List.getElem?_append_left hj] at q
                    obtain ⟨b, hb, rb⟩ := R1.at_ j o' q
                    exact ⟨b, by rw [List.getElem?_append_left (by rw [R0.len]; exact hj)]; exact hb, rb.up (more _)⟩
                  · have hl : j = h0.length := by
                      have := (List.getElem?_eq_some_iff.mp q).1
                      simp at this
                      omega
                    subst hl
                    rw [List.getElem?_concat_length] at q
                    cases q
                    exact ⟨a, by rw [← R0.len, List.getElem?_concat_length], ro.any hf⟩
                · rw [← R0.len, List.getElem?_concat_length]
            · exact triv
          · exact triv
      · split
        · rename_i hf
          exact ⟨m0, _, _, rfl, x1, R1, r.any hf⟩
        · exact triv
    · exact triv
end
end Mi

namespace Mi
open PySem PySem.Spec PyProof.Rows L2

/-! ### what is wanted behind a run -/
/-- an exception of the small language in the layer -/
def RX (K : PySem.W.Frag) (m : List Addr) (H : Hp) (x : Ex) (cls : Value) (d : Option Addr) : Prop :=
  cls = .ref (He.ga K x.cls) ∧ ((x.fs = [] ∧ d = none) ∨ ∃ dd ws, d = some dd ∧ H dd = some (.xd ws) ∧ RFs K m H x.fs ws)
def Po {α β : Type} (K : PySem.W.Frag) (W : WX) (rel : List Addr → Hp → α → β → Prop) (m : List Addr) (H : Hp) (σ : L2.St) (r : Res α) (Q : β → Hp → Prop) : Prop := match r with
  | .ok a h => ∀ m' H' b, Ext K m H m' H' → RH K m' H' h → rel m' H' a b → Q b H'
  | .err x h => ∀ m' H' cls d, Ext K m H m' H' → RH K m' H' h → RX K m' H' x cls d → W cls d σ H'
  | .bad => False
section
variable {α β γ δ : Type} {K : PySem.W.Frag} {W : WX} {rel : List Addr → Hp → α → β → Prop} {rel' : List Addr → Hp → γ → δ → Prop} {m m1 : List Addr} {H H1 : Hp} {σ : L2.St} {r : Res α} {Q Q' : β → Hp → Prop}
theorem Po.imp (p : Po K W rel m H σ r Q) (h : ∀ b H', Q b H' → Q' b H') : Po K W rel m H σ r Q' := by
  cases r with
  | ok a h1 => exact fun m' H' b x R q => h _ _ (p m' H' b x R q)
  | err x h1 => exact p
  | bad => exact p
theorem Po.mono (x : Ext K m H m1 H1) (p : Po K W rel m H σ r Q) : Po K W rel m1 H1 σ r Q := by
  cases r with
  | ok a h1 => exact fun m' H' b y R q => p m' H' b (x.trans y) R q
  | err x1 h1 => exact fun m' H' c d y R q => p m' H' c d (x.trans y) R q
  | bad => exact p
theorem Po.bind {Q : δ → Hp → Prop} {g : α → Hst → Res γ} (p : Po K W rel' m H σ (r.bind g) Q) :
    Po K W rel m H σ r (fun b H1 => ∃ m1 a h1, Ext K m H m1 H1 ∧ RH K m1 H1 h1 ∧ rel m1 H1 a b ∧ Po K W rel' m1 H1 σ (g a h1) Q) := by
  cases r with
  | ok a h1 => exact fun m' H' b x R q => ⟨m', a, h1, x, R, q, Po.mono x p⟩
  | err x h1 => exact p
  | bad => exact p
end
/-- the slots -/
def REn (K : PySem.W.Frag) (m : List Addr) (H : Hp) (en : En) (σ : L2.St) : Prop := en.length = σ.length ∧ ∀ (i : Nat) (d : D), en[i]? = some (some d) → ∃ v, σ[i]? = some (some v) ∧ RD K m H d v
section
variable {K : PySem.W.Frag} {m m1 : List Addr} {H H1 : Hp} {σ : L2.St} {en : En}
theorem REn.mono (x : Ext K m H m1 H1) (E : REn K m H en σ) : REn K m1 H1 en σ := ⟨E.1, fun i d e => let ⟨v, h, r⟩ := E.2 i d e; ⟨v, h, r.mono x⟩⟩
theorem REn.set (E : REn K m H en σ) {d : D} {v : V} (r : RD K m H d v) (i : Nat) : REn K m H (en.set i (some d)) (σ.set i (some v)) := by
  refine ⟨by simp [E.1], fun j e q => ?_⟩
  by_cases hj : i = j
  · subst hj
    have hl : i < en.length := by
      have := (List.getElem?_eq_some_iff.mp q).1
      simpa using this
    rw [List.getElem?_set_self hl] at q
    cases q
    exact ⟨v, by rw [List.getElem?_set_self (by rw [← E.1]; exact hl)], r⟩
  · rw [List.getElem?_set_ne hj] at q
    obtain ⟨w, h1, h2⟩ := E.2 j e q
    exact ⟨w, by rw [List.getElem?_set_ne hj]; exact h1, h2⟩
def wipeE (en : En) : List Nat → En
  | [] => en
  | v :: vs => (wipeE en vs).set v none
theorem REn.wipe (E : REn K m H en σ) : ∀ vs : List Nat, REn K m H (wipeE en vs) (wipe σ vs)
  | [] => E
  | v :: vs => by
    obtain ⟨l, g⟩ := REn.wipe E vs
    refine ⟨by simp only [wipeE, L2.wipe, List.length_set]; exact l, fun i d e => ?_⟩
    simp only [wipeE, L2.wipe] at e ⊢
    by_cases hi : v = i
    · subst hi
      have hl : v < (wipeE en vs).length := by
        have := (List.getElem?_eq_some_iff.mp e).1
        simpa using this
      rw [List.getElem?_set_self hl] at e
      cases e
    · rw [List.getElem?_set_ne hi] at e ⊢
      exact g i d e
end

/-! ### the judgements -/
def RdE (K : PySem.W.Frag) (W : WX) (f : Ev) : TE := fun σ H Q => ∃ m en h, RH K m H h ∧ REn K m H en σ ∧ Po K W (RD K) m H σ (f en h) Q
def RdA (K : PySem.W.Frag) (W : WX) (f : Evs) : TA := fun σ H Q => ∃ m en h, RH K m H h ∧ REn K m H en σ ∧ Po K W (RDs K) m H σ (f en h) Q
def RdT (K : PySem.W.Frag) (W : WX) (f : EvT) : TT := fun σ H Q => ∃ m en h, RH K m H h ∧ REn K m H en σ ∧ Po K W (fun _ _ a b => a = b) m H σ (f en h) Q
/-- what a statement's run wants -/
def PoS (K : PySem.W.Frag) (W : WX) (m : List Addr) (H : Hp) (r : SR) (D : Ends) : Prop := match r with
  | .nx en h => ∀ m' H' σ', Ext K m H m' H' → RH K m' H' h → REn K m' H' en σ' → D.nx σ' H'
  | .rt d h => ∀ m' H' v, Ext K m H m' H' → RH K m' H' h → RD K m' H' d v → D.rt v H'
  | .bk en h => ∀ m' H' σ', Ext K m H m' H' → RH K m' H' h → REn K m' H' en σ' → D.bk σ' H'
  | .ct en h => ∀ m' H' σ', Ext K m H m' H' → RH K m' H' h → REn K m' H' en σ' → D.ct σ' H'
  | .err x en h => ∀ m' H' σ' cls d, Ext K m H m' H' → RH K m' H' h → REn K m' H' en σ' → RX K m' H' x cls d → W cls d σ' H'
  | .bad => False
theorem PoS.mono {K : PySem.W.Frag} {W : WX} {m m1 : List Addr} {H H1 : Hp} {r : SR} {D : Ends} (x : Ext K m H m1 H1) (p : PoS K W m H r D) : PoS K W m1 H1 r D := by
  cases r with
  | nx en h => exact fun m' H' s y R E => p m' H' s (x.trans y) R E
  | rt d h => exact fun m' H' s y R E => p m' H' s (x.trans y) R E
  | bk en h => exact fun m' H' s y R E => p m' H' s (x.trans y) R E
  | ct en h => exact fun m' H' s y R E => p m' H' s (x.trans y) R E
  | err x1 en h => exact fun m' H' s c d y R E => p m' H' s c d (x.trans y) R E
  | bad => exact p
def RdS (K : PySem.W.Frag) (W : WX) (f : Sm) : TS := fun D σ H => ∃ m en h, RH K m H h ∧ REn K m H en σ ∧ PoS K W m H (f en h) D
abbrev SE (X : Cx) (W : WX) (e : Expr) (f : Ev) : Prop := PE X e (RdE X.K W f)
abbrev SA (X : Cx) (W : WX) (es : List Expr) (f : Evs) : Prop := PA X es (RdA X.K W f)
abbrev ST (X : Cx) (W : WX) (e : Expr) (f : EvT) : Prop := PT X e (RdT X.K W f)
abbrev SW (X : Cx) (W : WX) (e : Expr) (f : EvT) : Prop := PW X e (RdT X.K W f)
abbrev SS (X : Cx) (W : WX) (st : Stmt) (f : Sm) : Prop := PS X st (RdS X.K W f)
abbrev SSs (X : Cx) (W : WX) (sts : List Stmt) (f : Sm) : Prop := PSs X sts (RdS X.K W f)
section
variable {X : Cx} {W : WX} {e a b c : Expr} {es : List Expr} {st : Stmt} {sts : List Stmt} {pos : Pos}
theorem viaE {t t' : TE} (h : PE X e t) (q : ∀ σ H Q, t' σ H Q → t σ H Q) : PE X e t' := ⟨fun p s σ H Q I w => h.run p s σ H Q I (q _ _ _ w)⟩
theorem viaA {t t' : TA} (h : PA X es t) (q : ∀ σ H Q, t' σ H Q → t σ H Q) : PA X es t' := ⟨fun ps p s σ H Q I w => h.run ps p s σ H Q I (q _ _ _ w)⟩
theorem viaT {t t' : TT} (h : PT X e t) (q : ∀ σ H Q, t' σ H Q → t σ H Q) : PT X e t' := ⟨fun p s σ H Q I w => h.run p s σ H Q I (q _ _ _ w)⟩
theorem viaW {t t' : TT} (h : PW X e t) (q : ∀ σ H Q, t' σ H Q → t σ H Q) : PW X e t' := ⟨fun wh p s σ H Q I w => h.run wh p s σ H Q I (q _ _ _ w)⟩
theorem viaS {t t' : TS} (h : PS X st t) (q : ∀ D σ H, t' D σ H → t D σ H) : PS X st t' := ⟨fun p s σ H D I w => h.run p s σ H D I (q _ _ _ w)⟩
theorem viaSs {t t' : TS} (h : PSs X sts t) (q : ∀ D σ H, t' D σ H → t D σ H) : PSs X sts t' := ⟨fun p s σ H D I w => h.run p s σ H D I (q _ _ _ w)⟩

/-! ### names, constants -/
def vVar (i : Nat) : Ev := fun en h => match en[i]? with
  | some (some d) => .ok d h
  | _ => .bad
def vC (d : D) : Ev := fun _ h => .ok d h
theorem po_ok {α β : Type} {K : PySem.W.Frag} {rel : List Addr → Hp → α → β → Prop} {m : List Addr} {H : Hp} {σ : L2.St} {x : α} {y : β} {h : Hst} {Q : β → Hp → Prop} (p : Po K W rel m H σ (.ok x h) Q) (R : RH K m H h) (r : rel m H x y) : Q y H := p m H y .refl R r
theorem se_var (i : Nat) {x : Str} (hN : X.N[i]? = some x := by rfl) (hv : Vis X.env.scope x := by first | exact Or.inl rfl | exact Or.inr (Or.inl rfl) | exact Or.inr (Or.inr rfl)) (hd : (x == ("__debug__" : Str)) = false := by decide)
    (hcd : (x == ("__classdict__" : Str)) = false := by decide) : SE X W (.Name x pos) (vVar i) := by
  refine viaE (pe_var (i := i) hN hv hd hcd) fun σ H Q ⟨m, en, h, R, E, p⟩ => ?_
  unfold vVar at p
  split at p
  · rename_i d e
    obtain ⟨v, ev, r⟩ := E.2 i d e
    exact ⟨v, ev, po_ok p R r⟩
  · exact p.elim
theorem se_const {t : D} {v : V} (h : PE X e (tC v)) (r : ∀ K m H, RD K m H t v) : SE X W e (vC t) :=
  viaE h fun σ H Q ⟨m, en, hh, R, E, p⟩ => po_ok p R (r _ _ _)
theorem se_int {i : Int} {j : Nat} : SE X W (.Constant (.int i) j pos) (vC (.int i)) := se_const pe_int fun _ _ _ => .int i
theorem se_bl {i : Bool} {j : Nat} : SE X W (.Constant (.bool i) j pos) (vC (.bl i)) := se_const pe_bl fun _ _ _ => .bl i
theorem se_non {j : Nat} : SE X W (.Constant .none j pos) (vC .non) := se_const pe_non fun _ _ _ => .non
def okS (s : List Nat) : Bool := decide (s.length ≤ sizeLine) && s.all fun c => decide (c < 1114112)
theorem okS_ok {s : List Nat} (h : okS s = true) : StrB s := by
  simp only [okS, Bool.and_eq_true, decide_eq_true_eq, List.all_eq_true] at h
  exact ⟨h.1, h.2⟩
theorem se_str (s : List Nat) {x : Str} {j : Nat} (hx : x = ⟨s.toArray⟩ := by decide +kernel) (hs : okS s = true := by decide +kernel) : SE X W (.Constant (.str x) j pos) (vC (.str s)) := by
  subst hx
  exact se_const pe_str fun _ _ _ => .str (okS_ok hs)
theorem se_gint {x : Str} {i : Int} (hg : Gl X x) (hm : ∃ t, X.mg x = some (.int i t)) (hd : (x == ("__debug__" : Str)) = false := by decide) : SE X W (.Name x pos) (vC (.int i)) := by
  obtain ⟨t, hm⟩ := hm
  exact se_const (pe_glob hg hm (v := .int i) ⟨t, rfl⟩ hd) fun _ _ _ => .int i
theorem se_gstr (s : List Nat) {x y : Str} (hg : Gl X x) (hm : ∃ t, X.mg x = some (.str y t)) (hx : y = ⟨s.toArray⟩ := by decide +kernel) (hs : okS s = true := by decide +kernel) (hd : (x == ("__debug__" : Str)) = false := by decide) : SE X W (.Name x pos) (vC (.str s)) := by
  obtain ⟨t, hm⟩ := hm
  subst hx
  exact se_const (pe_glob hg hm (v := .str ⟨s.toArray⟩) ⟨t, rfl⟩ hd) fun _ _ _ => .str (okS_ok hs)

/-! ### operators by values -/
/-- the rule r of the layer is met where g answers -/
def Vop (K : PySem.W.Frag) (r : R2) (g : D → D → Hst → Res D) : Prop := ∀ (W : WX) (m : List Addr) (H : Hp) (h : Hst) (x y : D) (v u : V) (σ : L2.St) (Q : VK), RH K m H h → RD K m H x v → RD K m H y u → Po K W (RD K) m H σ (g x y h) Q → r v u H Q
def vB (g : D → D → Hst → Res D) (fa fb : Ev) : Ev := fun en h => (fa en h).bind fun x h1 => (fb en h1).bind fun y h2 => g x y h2
theorem rd_bin {K : PySem.W.Frag} {r : R2} {g : D → D → Hst → Res D} {fa fb : Ev} (hg : Vop K r g) : ∀ σ H Q, RdE K W (vB g fa fb) σ H Q → tOp r (RdE K W fa) (RdE K W fb) σ H Q := by
  rintro σ H Q ⟨m, en, h, R, E, p⟩
  refine ⟨m, en, h, R, E, Po.imp (Po.bind (rel := RD K) p) fun x H1 ⟨m1, a, h1, x1, R1, ra, p1⟩ => ?_⟩
  refine ⟨m1, en, h1, R1, E.mono x1, Po.imp (Po.bind (rel := RD K) p1) fun y H2 ⟨m2, b, h2, x2, R2, rb, p2⟩ => ?_⟩
  exact hg W m2 H2 h2 a b x y σ Q R2 (ra.mono x2) rb p2
theorem se_bin {op : Operator} {r : R2} {g : D → D → Hst → Res D} {fa fb : Ev} (ho : OpR X (binaryOp op) r) (hg : Vop X.K r g) (ha : SE X W a fa) (hb : SE X W b fb) : SE X W (.BinOp a op b pos) (vB g fa fb) :=
  viaE (pe_op ho ha hb) (rd_bin hg)
theorem se_cmpR {op : CmpOp} {r : R2} {g : D → D → Hst → Res D} {fa fb : Ev} (ho : OpR X (compareOp op) r) (hg : Vop X.K r g) (ha : SE X W a fa) (hb : SE X W b fb) (hm : behindInMarks op b = false) : SE X W (.Compare a [op] [b] pos) (vB g fa fb) :=
  viaE (pe_cmpR ho ha hb hm) (rd_bin hg)
/-- a value's answer that is a truth value -/
def asB (r : Res D) : Res Bool := r.bind fun d h => match d with
  | .bl b => .ok b h
  | _ => .bad
def tV (f : Ev) : EvT := fun en h => asB (f en h)
theorem rd_tB {K : PySem.W.Frag} {f : Ev} : ∀ σ H Q, RdT K W (tV f) σ H Q → tTest (RdE K W f) σ H Q := by
  rintro σ H Q ⟨m, en, h, R, E, p⟩
  refine ⟨m, en, h, R, E, Po.imp (Po.bind (rel := RD K) p) fun x H1 ⟨m1, a, h1, x1, R1, ra, p1⟩ => ?_⟩
  cases ra with
  | bl b => exact ⟨b, rfl, po_ok (rel := fun _ _ a b => a = b) p1 R1 rfl⟩
  | _ => exact p1.elim
theorem st_cmpR {op : CmpOp} {r : R2} {g : D → D → Hst → Res D} {fa fb : Ev} (ho : OpR X (compareOp op) r) (hg : Vop X.K r g) (ha : SE X W a fa) (hb : SE X W b fb) (hm : behindInMarks op b = false) : ST X W (.Compare a [op] [b] pos) (tV (vB g fa fb)) :=
  viaT (pt_cmpR ho ha hb hm) fun σ H Q p => by
    obtain ⟨m, en, h, R, E, p⟩ := rd_tB σ H Q p
    exact rd_bin hg σ H _ ⟨m, en, h, R, E, p⟩
/-- a op1 b op2 c -/
def vCh (g g' : D → D → Hst → Res D) (fa fb fc : Ev) : Ev := fun en h => (fa en h).bind fun x h1 => (fb en h1).bind fun y h2 => (asB (g x y h2)).bind fun k h3 => match k with
  | true => (fc en h3).bind fun z h4 => g' y z h4
  | false => .ok (.bl false) h3
theorem rd_chain {K : PySem.W.Frag} {r r' : R2} {g g' : D → D → Hst → Res D} {fa fb fc : Ev} (hg : Vop K r g) (hg' : Vop K r' g') : ∀ σ H Q, RdE K W (vCh g g' fa fb fc) σ H Q → tChain r r' (RdE K W fa) (RdE K W fb) (RdE K W fc) σ H Q := by
  rintro σ H Q ⟨m, en, h, R, E, p⟩
  refine ⟨m, en, h, R, E, Po.imp (Po.bind (rel := RD K) p) fun x H1 ⟨m1, a, h1, x1, R1, ra, p1⟩ => ?_⟩
  refine ⟨m1, en, h1, R1, E.mono x1, Po.imp (Po.bind (rel := RD K) p1) fun y H2 ⟨m2, b, h2, x2, R2, rb, p2⟩ => ?_⟩
  refine hg W m2 H2 h2 a b x y σ _ R2 (ra.mono x2) rb ?_
  have p3 : Po K W (RD K) m2 H2 σ ((g a b h2).bind fun d h3 => (match d with | .bl k => Res.ok k h3 | _ => Res.bad).bind fun k h4 => match k with
    | true => (fc en h4).bind fun z h5 => g' b z h5
    | false => .ok (.bl false) h4) Q := by
    have e : ((g a b h2).bind fun d h3 => (match d with | .bl k => Res.ok k h3 | _ => Res.bad).bind fun k h4 => match k with
      | true => (fc en h4).bind fun z h5 => g' b z h5
      | false => .ok (.bl false) h4) = (asB (g a b h2)).bind fun k h3 => match k with
      | true => (fc en h3).bind fun z h4 => g' b z h4
      | false => .ok (.bl false) h3 := by
      unfold asB
      cases g a b h2 <;> rfl
    rw [e]
    exact p2
  refine Po.imp (Po.bind (rel := RD K) p3) fun z H3 ⟨m3, d, h3, x3, R3, rd, p4⟩ => ?_
  cases rd with
  | bl k =>
    refine ⟨k, rfl, ?_⟩
    cases k with
    | true =>
      rw [if_pos rfl]
      exact ⟨m3, en, h3, R3, E.mono (x1.trans (x2.trans x3)), Po.imp (Po.bind (rel := RD K) p4) fun w H4 ⟨m4, c, h4, x4, R4, rc, p5⟩ => hg' W m4 H4 h4 b c y w σ Q R4 (rb.mono (x3.trans x4)) rc p5⟩
    | false =>
      rw [if_neg Bool.false_ne_true]
      exact po_ok (rel := RD K) p4 R3 (.bl false)
  | _ => exact p4.elim
theorem se_chain {op op' : CmpOp} {r r' : R2} {g g' : D → D → Hst → Res D} {fa fb fc : Ev} (ho : OpR X (compareOp op) r) (hg : Vop X.K r g) (ho' : OpR X (compareOp op') r') (hg' : Vop X.K r' g') (ha : SE X W a fa) (hb : SE X W b fb) (hc : SE X W c fc)
    (hm : lastMarks [op, op'] [b, c] = false := by with_unfolding_all rfl) : SE X W (.Compare a [op, op'] [b, c] pos) (vCh g g' fa fb fc) := viaE (pe_chain ho ho' ha hb hc hm) (rd_chain hg hg')
theorem st_chain {op op' : CmpOp} {r r' : R2} {g g' : D → D → Hst → Res D} {fa fb fc : Ev} (ho : OpR X (compareOp op) r) (hg : Vop X.K r g) (ho' : OpR X (compareOp op') r') (hg' : Vop X.K r' g') (ha : SE X W a fa) (hb : SE X W b fb) (hc : SE X W c fc)
    (hm : lastMarks [op, op'] [b, c] = false := by with_unfolding_all rfl) : ST X W (.Compare a [op, op'] [b, c] pos) (tV (vCh g g' fa fb fc)) :=
  viaT (pt_chain ho ho' ha hb hc hm) fun σ H Q p => by
    obtain ⟨m, en, h, R, E, p⟩ := rd_tB σ H Q p
    exact rd_chain hg hg' σ H _ ⟨m, en, h, R, E, p⟩

/-! ### truth, and, or, not -/
def truD (d : D) (h : Hst) : Res Bool := match d with
  | .non => .ok false h
  | .bl b => .ok b h
  | .int i => .ok (decide (i ≠ 0)) h
  | .str s => .ok (!s.isEmpty) h
  | .tup xs => .ok (!xs.isEmpty) h
  | .sl xs => .ok (!xs.isEmpty) h
  | .ref n => match h[n]? with
    | some (.lst xs) => .ok (!xs.isEmpty) h
    | some (.dic false kvs) => .ok (!kvs.isEmpty) h
    | _ => .bad
theorem isE_len {α β : Type} {xs : List α} {ys : List β} (h : xs.length = ys.length) : (!xs.isEmpty) = !ys.isEmpty := by
  cases xs <;> cases ys <;> first | rfl | simp at h
theorem RKV.length {K : PySem.W.Frag} {m : List Addr} {H : Hp} {κ : Type} {kd : D → Option κ} : ∀ {kvs : List (D × D)} {ws : List (κ × V)}, RKV K m H kd kvs ws → kvs.length = ws.length
  | _, _, .nil => rfl
  | _, _, .cons _ _ rs => congrArg Nat.succ (RKV.length rs)
theorem truD_ok {K : PySem.W.Frag} {m : List Addr} {H : Hp} {h h' : Hst} {d : D} {v : V} {k : Bool} (R : RH K m H h) (r : RD K m H d v) (e : truD d h = .ok k h') : h' = h ∧ TruV K v H k := by
  cases r with
  | non => cases e; exact ⟨rfl, rfl⟩
  | bl b => cases e; exact ⟨rfl, rfl⟩
  | int i =>
    cases e
    refine ⟨rfl, ?_⟩
    show decide (i ≠ 0) = (i != 0)
    by_cases z : i = 0 <;> simp [z]
  | @str s b =>
    cases e
    have hl : (Str.mk s.toArray).length = s.length := by simp [Str.length]
    refine ⟨rfl, by rw [hl]; exact b.len, ?_⟩
    show (!s.isEmpty) = (((Str.mk s.toArray).length : Int) != 0)
    rw [hl]
    cases s with
    | nil => rfl
    | cons c s => simp; omega
  | tup _ q rs => cases e; exact ⟨rfl, .inr (.inl ⟨_, .of q, isE_len rs.length⟩)⟩
  | sl _ q rs => cases e; exact ⟨rfl, .inl ⟨_, q.seq, isE_len rs.length⟩⟩
  | @ref n a ha =>
    unfold truD at e
    dsimp only at e
    split at e
    · rename_i xs he
      obtain ⟨_, vs, q, rs⟩ := R.look ha he
      cases e
      exact ⟨rfl, .inl ⟨_, .of q, isE_len rs.length⟩⟩
    · rename_i kvs he
      obtain ⟨ws, q, rs⟩ := R.look ha he
      cases e
      exact ⟨rfl, .inr (.inr ⟨_, q, isE_len rs.length⟩)⟩
    · cases e
def tTru (f : Ev) : EvT := fun en h => (f en h).bind fun d h1 => truD d h1
theorem po_tru {K : PySem.W.Frag} {γ δ : Type} {rel : List Addr → Hp → γ → δ → Prop} {m : List Addr} {H : Hp} {h : Hst} {d : D} {v : V} {σ : L2.St} {g : Bool → Hst → Res γ} {Q : δ → Hp → Prop} (R : RH K m H h) (r : RD K m H d v) (p : Po K W rel m H σ ((truD d h).bind g) Q) :
    ∃ k, TruV K v H k ∧ Po K W rel m H σ (g k h) Q := by
  cases e : truD d h with
  | ok k h' =>
    obtain ⟨e1, t⟩ := truD_ok R r e
    subst e1
    rw [e] at p
    exact ⟨k, t, p⟩
  | err x h' =>
    have : ∀ k h', truD d h ≠ .err k h' := by
      intro k h' q
      unfold truD at q
      split at q <;> first | (cases q; done) | (split at q <;> cases q)
    exact (this _ _ e).elim
  | bad => rw [e] at p; exact p.elim
theorem res_bind_ok {α : Type} (r : Res α) : r.bind (fun a h => .ok a h) = r := by cases r <;> rfl
theorem st_truth {fa : Ev} (ha : SE X W a fa) (he : ∀ whole, isTrue a X.env whole = (do let v ← whole; standAt a.pos; holding [v] (truthy v)) := by intro _; rfl) : ST X W a (tTru fa) :=
  viaT (pt_truth ha he) fun σ H Q ⟨m, en, h, R, E, p⟩ => ⟨m, en, h, R, E, Po.imp (Po.bind (rel := RD X.K) p) fun x H1 ⟨m1, d, h1, x1, R1, ra, p1⟩ => by
    rw [← res_bind_ok (truD d h1)] at p1
    obtain ⟨k, t, p2⟩ := po_tru R1 ra p1
    exact ⟨k, t, po_ok (rel := fun _ _ a b => a = b) p2 R1 rfl⟩⟩
/-- an expression that gives a truth value -/
theorem st_val {fa : Ev} (ha : SE X W a fa) (he : ∀ whole, isTrue a X.env whole = (do let v ← whole; standAt a.pos; holding [v] (truthy v)) := by intro _; rfl) : ST X W a (tV fa) :=
  viaT (pt_val ha he) fun σ H Q p => rd_tB σ H Q p
def tNotE (f : EvT) : EvT := fun en h => (f en h).bind fun b h1 => .ok (!b) h1
def tAndE (f g : EvT) : EvT := fun en h => (f en h).bind fun b h1 => match b with
  | true => g en h1
  | false => .ok false h1
def tOrE (f g : EvT) : EvT := fun en h => (f en h).bind fun b h1 => match b with
  | true => .ok true h1
  | false => g en h1
theorem st_not {f : EvT} (ha : ST X W a f) : ST X W (.UnaryOp .Not a pos) (tNotE f) :=
  viaT (pt_not ha) fun σ H Q ⟨m, en, h, R, E, p⟩ => ⟨m, en, h, R, E, Po.imp (Po.bind (rel := fun _ _ a b => a = b) p) fun x H1 ⟨m1, d, h1, x1, R1, ra, p1⟩ => by
    subst ra
    exact po_ok (rel := fun _ _ a b => a = b) p1 R1 rfl⟩
theorem sw_and1 {f : EvT} (ha : ST X W a f) : SW X W (.BoolOp .And [a] pos) f := pw_and1 ha
theorem sw_or1 {f : EvT} (ha : ST X W a f) : SW X W (.BoolOp .Or [a] pos) f := pw_or1 ha
theorem sw_and {f g : EvT} {rest : List Expr} (ha : ST X W a f) (hb : SW X W (.BoolOp .And (b :: rest) pos) g) : SW X W (.BoolOp .And (a :: b :: rest) pos) (tAndE f g) :=
  viaW (pw_and ha hb) fun σ H Q ⟨m, en, h, R, E, p⟩ => ⟨m, en, h, R, E, Po.imp (Po.bind (rel := fun _ _ a b => a = b) p) fun x H1 ⟨m1, d, h1, x1, R1, ra, p1⟩ => by
    subst ra
    cases d with
    | true => exact iteT ⟨m1, en, h1, R1, E.mono x1, p1⟩
    | false => exact iteF (po_ok (rel := fun _ _ a b => a = b) p1 R1 rfl)⟩
theorem sw_or {f g : EvT} {rest : List Expr} (ha : ST X W a f) (hb : SW X W (.BoolOp .Or (b :: rest) pos) g) : SW X W (.BoolOp .Or (a :: b :: rest) pos) (tOrE f g) :=
  viaW (pw_or ha hb) fun σ H Q ⟨m, en, h, R, E, p⟩ => ⟨m, en, h, R, E, Po.imp (Po.bind (rel := fun _ _ a b => a = b) p) fun x H1 ⟨m1, d, h1, x1, R1, ra, p1⟩ => by
    subst ra
    cases d with
    | true => exact iteT (po_ok (rel := fun _ _ a b => a = b) p1 R1 rfl)
    | false => exact iteF ⟨m1, en, h1, R1, E.mono x1, p1⟩⟩
theorem st_w {f : EvT} (h : SW X W a f) : ST X W a f := PW.pt h
/-- as values -/
def vAnd (f g : Ev) : Ev := fun en h => (f en h).bind fun d h1 => (truD d h1).bind fun b h2 => match b with
  | true => g en h2
  | false => .ok d h2
def vOr (f g : Ev) : Ev := fun en h => (f en h).bind fun d h1 => (truD d h1).bind fun b h2 => match b with
  | true => .ok d h2
  | false => g en h2
def vNot (f : Ev) : Ev := fun en h => (f en h).bind fun d h1 => (truD d h1).bind fun b h2 => .ok (.bl (!b)) h2
theorem se_one {op : BoolOp} {f : Ev} (ha : SE X W a f) : SE X W (.BoolOp op [a] pos) f := pe_one ha
theorem se_and {f g : Ev} {rest : List Expr} (ha : SE X W a f) (hb : SE X W (.BoolOp .And (b :: rest) pos) g) : SE X W (.BoolOp .And (a :: b :: rest) pos) (vAnd f g) :=
  viaE (pe_andT ha hb) fun σ H Q ⟨m, en, h, R, E, p⟩ => ⟨m, en, h, R, E, Po.imp (Po.bind (rel := RD X.K) p) fun x H1 ⟨m1, d, h1, x1, R1, ra, p1⟩ => by
    obtain ⟨k, t, p2⟩ := po_tru R1 ra p1
    refine ⟨k, t, ?_⟩
    cases k with
    | true => exact iteT ⟨m1, en, h1, R1, E.mono x1, p2⟩
    | false => exact iteF (po_ok (rel := RD X.K) p2 R1 ra)⟩
theorem se_or {f g : Ev} {rest : List Expr} (ha : SE X W a f) (hb : SE X W (.BoolOp .Or (b :: rest) pos) g) : SE X W (.BoolOp .Or (a :: b :: rest) pos) (vOr f g) :=
  viaE (pe_orT ha hb) fun σ H Q ⟨m, en, h, R, E, p⟩ => ⟨m, en, h, R, E, Po.imp (Po.bind (rel := RD X.K) p) fun x H1 ⟨m1, d, h1, x1, R1, ra, p1⟩ => by
    obtain ⟨k, t, p2⟩ := po_tru R1 ra p1
    refine ⟨k, t, ?_⟩
    cases k with
    | true => exact iteT (po_ok (rel := RD X.K) p2 R1 ra)
    | false => exact iteF ⟨m1, en, h1, R1, E.mono x1, p2⟩⟩
theorem se_not {f : Ev} (ha : SE X W a f) : SE X W (.UnaryOp .Not a pos) (vNot f) :=
  viaE (pe_notT ha) fun σ H Q ⟨m, en, h, R, E, p⟩ => ⟨m, en, h, R, E, Po.imp (Po.bind (rel := RD X.K) p) fun x H1 ⟨m1, d, h1, x1, R1, ra, p1⟩ => by
    obtain ⟨k, t, p2⟩ := po_tru R1 ra p1
    exact ⟨k, t, po_ok (rel := RD X.K) p2 R1 (.bl _)⟩⟩
def vIf (t : EvT) (f g : Ev) : Ev := fun en h => (t en h).bind fun b h1 => match b with
  | true => f en h1
  | false => g en h1
theorem se_if {t : EvT} {f g : Ev} (hc : ST X W c t) (ha : SE X W a f) (hb : SE X W b g) : SE X W (.IfExp c a b pos) (vIf t f g) :=
  viaE (pe_ifExp hc ha hb) fun σ H Q ⟨m, en, h, R, E, p⟩ => ⟨m, en, h, R, E, Po.imp (Po.bind (rel := fun _ _ a b => a = b) p) fun x H1 ⟨m1, d, h1, x1, R1, ra, p1⟩ => by
    subst ra
    cases d with
    | true => exact iteT ⟨m1, en, h1, R1, E.mono x1, p1⟩
    | false => exact iteF ⟨m1, en, h1, R1, E.mono x1, p1⟩⟩

/-! ### arguments, displays -/
def aNil : Evs := fun _ h => .ok [] h
def aCons (f : Ev) (g : Evs) : Evs := fun en h => (f en h).bind fun d h1 => (g en h1).bind fun ds h2 => .ok (d :: ds) h2
theorem sa_nil : SA X W [] aNil := viaA pa_nil fun σ H Q ⟨m, en, h, R, E, p⟩ => po_ok (rel := RDs X.K) p R .nil
theorem sa_cons {f : Ev} {g : Evs} (ha : SE X W e f) (hr : SA X W es g) (hs : starEach (e :: es) X.env = (false, eval e X.env) :: starEach es X.env := by rfl) : SA X W (e :: es) (aCons f g) :=
  viaA (pa_cons ha hr hs) fun σ H Q ⟨m, en, h, R, E, p⟩ => ⟨m, en, h, R, E, Po.imp (Po.bind (rel := RD X.K) p) fun x H1 ⟨m1, d, h1, x1, R1, ra, p1⟩ =>
    ⟨m1, en, h1, R1, E.mono x1, Po.imp (Po.bind (rel := RDs X.K) p1) fun xs H2 ⟨m2, ds, h2, x2, R2, rs, p2⟩ => po_ok (rel := RDs X.K) p2 R2 (.cons (ra.mono x2) rs)⟩⟩
def vTup (f : Evs) : Ev := fun en h => (f en h).bind fun ds h1 => if ds.length ≤ 16777216 then .ok (.tup ds) h1 else .bad
def vLst (f : Evs) : Ev := fun en h => (f en h).bind fun ds h1 => if ds.length ≤ 16777216 then .ok (.ref h1.length) (h1 ++ [.lst ds]) else .bad
theorem sl_eq : sizeLine = 16777216 := sizeLine_eq
section
variable {K : PySem.W.Frag} {m : List Addr} {H : Hp} {h : Hst} {σ : L2.St} {Q : VK} {ds : List D} {vs : List V}
theorem new_tup (R : RH K m H h) (rs : RDs K m H ds vs) (hl : ds.length ≤ 16777216) (p : Po K W (RD K) m H σ (.ok (.tup ds) h) Q) : ∀ p, H p = none → Q (.ref p) (upd H p (.tup vs)) := fun a ha =>
  p m _ _ (Ext.fresh ha) (R.laid ha) (.tup (by rw [sl_eq]; exact hl) upd_same (rs.mono (Ext.fresh ha).e))
theorem new_lst (R : RH K m H h) (rs : RDs K m H ds vs) (hl : ds.length ≤ 16777216) (p : Po K W (RD K) m H σ (.ok (.ref h.length) (h ++ [.lst ds])) Q) : ∀ p, H p = none → Q (.ref p) (upd H p (.lst vs)) := fun a ha =>
  p (m ++ [a]) _ _ (Ext.push ha) (R.push ha ⟨by rw [sl_eq]; exact hl, vs, upd_same, rs.mono (Ext.push ha).e⟩) (.ref (by rw [← R.len, List.getElem?_concat_length]))
end
theorem se_tup {k : Nat} {f : Evs} (ha : SA X W es f) : SE X W (.Tuple es k pos) (vTup f) :=
  viaE (pe_tup ha) fun σ H Q ⟨m, en, h, R, E, p⟩ => ⟨m, en, h, R, E, Po.imp (Po.bind (rel := RDs X.K) p) fun xs H1 ⟨m1, ds, h1, x1, R1, rs, p1⟩ => by
    by_cases hl : ds.length ≤ 16777216
    · rw [if_pos hl] at p1
      exact ⟨by rw [← rs.length, sl_eq]; exact hl, new_tup R1 rs hl p1⟩
    · rw [if_neg hl] at p1
      exact p1.elim⟩
theorem se_lst {f : Evs} (ha : SA X W es f) : SE X W (.List es pos) (vLst f) :=
  viaE (pe_lst ha) fun σ H Q ⟨m, en, h, R, E, p⟩ => ⟨m, en, h, R, E, Po.imp (Po.bind (rel := RDs X.K) p) fun xs H1 ⟨m1, ds, h1, x1, R1, rs, p1⟩ => by
    by_cases hl : ds.length ≤ 16777216
    · rw [if_pos hl] at p1
      exact ⟨by rw [← rs.length, sl_eq]; exact hl, new_lst R1 rs hl p1⟩
    · rw [if_neg hl] at p1
      exact p1.elim⟩
end
end Mi

namespace Mi
open PySem PySem.Spec PyProof.Rows L2

section
variable {K : PySem.W.Frag} {W : WX} {m : List Addr} {H : Hp} {h : Hst} {σ : L2.St} {Q : VK}
theorem p_int {i : Int} (R : RH K m H h) (p : Po K W (RD K) m H σ (.ok (.int i) h) Q) : Q (.int i) H := po_ok p R (.int i)
theorem p_bl {i : Bool} (R : RH K m H h) (p : Po K W (RD K) m H σ (.ok (.bl i) h) Q) : Q (.bl i) H := po_ok p R (.bl i)
theorem p_if {α β : Type} {rel : List Addr → Hp → α → β → Prop} {Q : β → Hp → Prop} {c : Prop} [Decidable c] {r : Res α} (p : Po K W rel m H σ (if c then r else .bad) Q) : c ∧ Po K W rel m H σ r Q := by
  by_cases hc : c
  · rw [if_pos hc] at p; exact ⟨hc, p⟩
  · rw [if_neg hc] at p; exact p.elim
end

/-! ### + -/
def addD (x y : D) (h : Hst) : Res D := match x, y with
  | .int i, .int j => .ok (.int (i + j)) h
  | .int i, .bl j => .ok (.int (i + b2i j)) h
  | .str s, .str t => if s.length + t.length ≤ 16777216 then .ok (.str (s ++ t)) h else .bad
  | .tup xs, .tup ys => if xs.length + ys.length ≤ 16777216 then .ok (.tup (xs ++ ys)) h else .bad
  | .ref a, .ref b => match h[a]?, h[b]? with
    | some (.lst xs), some (.lst ys) => if xs.length + ys.length ≤ 16777216 then .ok (.ref h.length) (h ++ [.lst (xs ++ ys)]) else .bad
    | _, _ => .bad
  | _, _ => .bad
def rAddM (K : PySem.W.Frag) : R2 := fun x y H Q => (rI0 (fun i j => .int (i + j))) x y H Q ∨ (∃ i k, x = .int i ∧ y = .bl k ∧ Q (.int (i + b2i k)) H) ∨
  (∃ i j, x = .str i ∧ y = .str j ∧ i.length + j.length ≤ sizeLine ∧ Q (.str (i ++ j)) H) ∨ rCatA K x y H Q ∨ rCat x y H Q
theorem op_addM {X : Cx} : OpR X (binaryOp .Add) (rAddM X.K) := op_add.or (op_add_ib.or (op_add_str.or (op_catA.or op_cat)))
theorem str_app (s t : List Nat) : (⟨s.toArray⟩ : Str) ++ ⟨t.toArray⟩ = ⟨(s ++ t).toArray⟩ := by
  show (⟨s.toArray ++ t.toArray⟩ : Str) = _
  simp
theorem str_len (s : List Nat) : (Str.mk s.toArray).length = s.length := by simp [Str.length]
theorem StrB.app {s t : List Nat} (a : StrB s) (b : StrB t) (h : s.length + t.length ≤ 16777216) : StrB (s ++ t) :=
  ⟨by rw [List.length_append, sl_eq]; exact h, fun c hc => (List.mem_append.mp hc).elim (a.cp c) (b.cp c)⟩
theorem vop_add {K : PySem.W.Frag} : Vop K (rAddM K) addD := by
  intro W m H h x y v u σ Q R rx ry p
  unfold addD at p
  split at p
  · cases rx; cases ry; exact .inl ⟨_, _, rfl, rfl, p_int R p⟩
  · cases rx; cases ry; exact .inr (.inl ⟨_, _, rfl, rfl, p_int R p⟩)
  · obtain ⟨hl, p⟩ := p_if p
    cases rx with
    | str bx =>
      cases ry with
      | str by' => exact .inr (.inr (.inl ⟨_, _, rfl, rfl, by rw [str_len, str_len, sl_eq]; exact hl, by rw [str_app]; exact po_ok p R (.str (bx.app by' hl))⟩))
  · obtain ⟨hl, p⟩ := p_if p
    rename_i xs ys
    cases rx with
    | tup l1 q1 r1 =>
      cases ry with
      | tup l2 q2 r2 =>
        have e1 := r1.length
        have e2 := r2.length
        refine .inr (.inr (.inr (.inl ⟨_, _, _, _, rfl, rfl, .of q1, .of q2, by rw [sl_eq]; omega, fun z => ?_, fun _ z => ?_, fun _ _ => new_tup R (r1.append r2) (by rw [List.length_append]; exact hl) p⟩)))
        · subst z
          cases r1
          exact po_ok p R (.tup l2 q2 r2)
        · subst z
          cases r2
          exact po_ok p R (.tup (by rw [List.append_nil]; exact l1) q1 (by rw [List.append_nil]; exact r1))
  · split at p
    · rename_i ea eb
      obtain ⟨hl, p⟩ := p_if p
      cases rx with
      | ref ha =>
        cases ry with
        | ref hb =>
          obtain ⟨_, vs, q1, r1⟩ := R.look ha ea
          obtain ⟨_, ws, q2, r2⟩ := R.look hb eb
          have e1 := r1.length
          have e2 := r2.length
          exact .inr (.inr (.inr (.inr ⟨_, _, _, _, rfl, rfl, q1, q2, by rw [sl_eq]; omega, new_lst R (r1.append r2) (by rw [List.length_append]; exact hl) p⟩)))
    · exact p.elim
  · exact p.elim
/-! ### ints -/
def intD (f : Int → Int → Int) (x y : D) (h : Hst) : Res D := match x, y with
  | .int i, .int j => .ok (.int (f i j)) h
  | _, _ => .bad
def intG (c : Int → Int → Bool) (f : Int → Int → Int) (x y : D) (h : Hst) : Res D := match x, y with
  | .int i, .int j => if c i j = true then .ok (.int (f i j)) h else .bad
  | _, _ => .bad
def cmpD (f : Int → Int → Bool) (x y : D) (h : Hst) : Res D := match x, y with
  | .int i, .int j => .ok (.bl (f i j)) h
  | _, _ => .bad
theorem vop_int {K : PySem.W.Frag} {f : Int → Int → Int} : Vop K (rI0 fun i j => .int (f i j)) (intD f) := by
  intro W m H h x y v u σ Q R rx ry p
  unfold intD at p
  split at p
  · cases rx; cases ry; exact ⟨_, _, rfl, rfl, p_int R p⟩
  · exact p.elim
theorem vop_intG {K : PySem.W.Frag} {c : Int → Int → Bool} {C : Int → Int → Prop} {f : Int → Int → Int} (hc : ∀ i j, c i j = true → C i j) : Vop K (rI C fun i j => .int (f i j)) (intG c f) := by
  intro W m H h x y v u σ Q R rx ry p
  unfold intG at p
  split at p
  · obtain ⟨e, p⟩ := p_if p
    cases rx; cases ry; exact ⟨_, _, rfl, rfl, hc _ _ e, p_int R p⟩
  · exact p.elim
theorem vop_cmp {K : PySem.W.Frag} {f : Int → Int → Bool} : Vop K (rI0 fun i j => .bl (f i j)) (cmpD f) := by
  intro W m H h x y v u σ Q R rx ry p
  unfold cmpD at p
  split at p
  · cases rx; cases ry; exact ⟨_, _, rfl, rfl, p_bl R p⟩
  · exact p.elim
def subD := intD fun i j => i - j
def okMul (i j : Int) : Bool := decide (-18446744073709551616 < i ∧ i < 18446744073709551616) || decide (-18446744073709551616 < j ∧ j < 18446744073709551616)
def mulI := intG okMul fun i j => i * j
theorem okMul_ok (i j : Int) (h : okMul i j = true) : CMul i j := by
  simp only [okMul, Bool.or_eq_true, decide_eq_true_eq] at h
  exact h
def okDiv (i j : Int) : Bool := decide (0 < j ∧ j < 1073741824)
def divD := intG okDiv fun i j => i / j
theorem okDiv_ok (i j : Int) (h : okDiv i j = true) : CDiv i j := by
  simp only [okDiv, decide_eq_true_eq] at h
  exact h
def okMod (i j : Int) : Bool := decide (0 < j)
def modD := intG okMod fun i j => i % j
theorem okMod_ok (i j : Int) (h : okMod i j = true) : 0 < j := of_decide_eq_true h
def okPow (i j : Int) : Bool := decide (0 ≤ j ∧ j ≤ 1000000 ∧ i.natAbs < 18446744073709551616)
def powD := intG okPow fun i j => i ^ j.toNat
theorem okPow_ok (i j : Int) (h : okPow i j = true) : CPow i j := by
  simp only [okPow, decide_eq_true_eq] at h
  exact h
/-- * of ints, and of a list by an int -/
def mulD (x y : D) (h : Hst) : Res D := match x, y with
  | .int i, .int j => mulI (.int i) (.int j) h
  | .ref a, .int k => match h[a]? with
    | some (.lst xs) => if -9223372036854775808 ≤ k ∧ k < 9223372036854775808 ∧ xs.length * k.toNat ≤ 16777216 then .ok (.ref h.length) (h ++ [.lst (List.replicate k.toNat xs).flatten]) else .bad
    | _ => .bad
  | _, _ => .bad
theorem RDs.rep {K : PySem.W.Frag} {m : List Addr} {H : Hp} {ds : List D} {vs : List V} (r : RDs K m H ds vs) : ∀ n : Nat, RDs K m H (List.replicate n ds).flatten (List.replicate n vs).flatten
  | 0 => .nil
  | n + 1 => by
    rw [List.replicate_succ, List.replicate_succ, List.flatten_cons, List.flatten_cons]
    exact r.append (RDs.rep r n)
theorem rep_len {α : Type} (xs : List α) : ∀ n : Nat, (List.replicate n xs).flatten.length = xs.length * n
  | 0 => by simp
  | n + 1 => by rw [List.replicate_succ, List.flatten_cons, List.length_append, rep_len xs n, Nat.mul_succ]; omega
def rMulM (K : PySem.W.Frag) : R2 := fun x y H Q => (rI CMul fun i j => .int (i * j)) x y H Q ∨ rRep x y H Q
theorem op_mulM {X : Cx} : OpR X (binaryOp .Mult) (rMulM X.K) := op_mul.or op_rep
theorem vop_mul {K : PySem.W.Frag} : Vop K (rMulM K) mulD := by
  intro W m H h x y v u σ Q R rx ry p
  unfold mulD at p
  split at p
  · exact .inl (vop_intG okMul_ok W m H h _ _ v u σ Q R rx ry p)
  · split at p
    · rename_i ea
      obtain ⟨⟨h1, h2, hl⟩, p⟩ := p_if p
      cases rx with
      | ref ha =>
        cases ry
        obtain ⟨_, vs, q1, r1⟩ := R.look ha ea
        have e1 := r1.length
        exact .inr ⟨_, _, _, rfl, rfl, q1, h1, h2, by rw [sl_eq, ← e1]; exact hl, new_lst R (r1.rep _) (by rw [rep_len]; exact hl) p⟩
    · exact p.elim
  · exact p.elim
def ltD := cmpD fun i j => decide (i < j)
def leD := cmpD fun i j => decide (i ≤ j)
def gtD := cmpD fun i j => decide (j < i)
def geD := cmpD fun i j => decide (j ≤ i)
def negD (x : D) (h : Hst) : Res D := match x with
  | .int i => .ok (.int (-i)) h
  | _ => .bad
def vU (g : D → Hst → Res D) (f : Ev) : Ev := fun en h => (f en h).bind fun x h1 => g x h1

/-! ### == -/
def flatD : D → Bool
  | .non => true | .bl _ => true | .int _ => true | .str _ => true
  | _ => false
def eqF : D → D → Bool
  | .non, .non => true
  | .bl a, .bl b => a == b
  | .bl a, .int b => (if a then 1 else 0) == b
  | .int a, .bl b => a == (if b then 1 else 0)
  | .int a, .int b => a == b
  | .str a, .str b => decide (a = b)
  | _, _ => false
mutual
/-- a value as data; n: so many lists within one another at most -/
def toPy (h : Hst) (n : Nat) (d : D) : Option PyData := match d with
  | .non => some .none
  | .bl b => some (.bool b)
  | .int i => some (.int i)
  | .str s => some (.str ⟨s.toArray⟩)
  | .tup ds => match toPys h n ds with | some ps => some (.tuple ps) | none => none
  | .sl ds => match toPys h n ds with | some ps => some (.list ps) | none => none
  | .ref a => match n with
    | 0 => none
    | n + 1 => match h[a]? with
      | some (.lst ds) => match toPys h n ds with | some ps => some (.list ps) | none => none
      | _ => none
termination_by (n, sizeOf d)
def toPys (h : Hst) (n : Nat) (ds : List D) : Option (List PyData) := match ds with
  | [] => some []
  | d :: ds => match toPy h n d, toPys h n ds with
    | some p, some ps => some (p :: ps)
    | _, _ => none
termination_by (n, sizeOf ds)
end
def eqB (x y : D) (h : Hst) : Option Bool :=
  if flatD x = true ∧ flatD y = true then some (eqF x y)
  else match toPy h 64 x, toPy h 64 y with
    | some p, some q => if p.depth ≤ 64 ∧ q.depth ≤ 64 then some (PyData.eqv p q) else none
    | _, _ => none
def eqD (x y : D) (h : Hst) : Res D := match eqB x y h with
  | some b => .ok (.bl b) h
  | none => .bad
def neD (x y : D) (h : Hst) : Res D := match eqB x y h with
  | some b => .ok (.bl (!b)) h
  | none => .bad
section
variable {K : PySem.W.Frag} {m : List Addr} {H : Hp} {h : Hst}
mutual
theorem toPy_ok (R : RH K m H h) (n : Nat) (d : D) (v : V) (p : PyData) (r : RD K m H d v) (e : toPy h n d = some p) : Dp K H v p ∧ p.canLay0 = true := by
  cases r with
  | non => rw [toPy] at e; cases e; exact ⟨.non, by simp [PyData.canLay0]⟩
  | bl b => rw [toPy] at e; cases e; exact ⟨.bl b, by simp [PyData.canLay0]⟩
  | int i => rw [toPy] at e; cases e; exact ⟨.int i, by simp [PyData.canLay0]⟩
  | @str s b =>
    rw [toPy] at e; cases e
    refine ⟨.str _, ?_⟩
    simp only [PyData.canLay0, PyData.strOk, List.size_toArray, List.all_toArray', List.all_eq_true, decide_eq_true_eq]
    exact b.cp
  | @tup ds vs a l q rs =>
    rw [toPy] at e
    split at e
    · rename_i ps he
      cases e
      obtain ⟨h1, h2⟩ := toPys_ok R n ds vs ps rs he
      exact ⟨.tup (.of q) h1, by simpa [PyData.canLay0] using h2⟩
    · cases e
  | @sl ds vs a l q rs =>
    rw [toPy] at e
    split at e
    · rename_i ps he
      cases e
      obtain ⟨h1, h2⟩ := toPys_ok R n ds vs ps rs he
      exact ⟨.lst q.seq h1, by simpa [PyData.canLay0] using h2⟩
    · cases e
  | @ref j a ha =>
    cases n with
    | zero => rw [toPy] at e; cases e
    | succ n =>
      rw [toPy] at e
      split at e
      · rename_i ds hd
        split at e
        · rename_i ps he
          cases e
          obtain ⟨_, vs, q, rs⟩ := R.look ha hd
          obtain ⟨h1, h2⟩ := toPys_ok R n ds vs ps rs he
          exact ⟨.lst (.of q) h1, by simpa [PyData.canLay0] using h2⟩
        · cases e
      · cases e
termination_by (n, sizeOf d)
theorem toPys_ok (R : RH K m H h) (n : Nat) (ds : List D) (vs : List V) (ps : List PyData) (r : RDs K m H ds vs) (e : toPys h n ds = some ps) : DpAll K H vs ps ∧ PyData.canLayAll0 ps = true := by
  cases r with
  | nil => rw [toPys] at e; cases e; exact ⟨.nil, by simp [PyData.canLayAll0]⟩
  | @cons d ds v vs r rs =>
    rw [toPys] at e
    split at e
    · rename_i p qs h1 h2
      cases e
      obtain ⟨a1, a2⟩ := toPy_ok R n d v p r h1
      obtain ⟨b1, b2⟩ := toPys_ok R n ds vs qs rs h2
      exact ⟨.cons a1 b1, by simp [PyData.canLayAll0, a2, b2]⟩
    · cases e
termination_by (n, sizeOf ds)
end
theorem flat_py {d : D} (f : flatD d = true) (n : Nat) : ∃ p, toPy h n d = some p ∧ p.depth = 0 ∧ ∀ e q, flatD e = true → toPy h n e = some q → PyData.eqv p q = eqF d e := by
  cases d with
  | non =>
    refine ⟨_, by rw [toPy], by simp [PyData.depth], fun e q fe he => ?_⟩
    cases e <;> first | (cases fe; done) | (rw [toPy] at he; cases he; rfl)
  | bl b =>
    refine ⟨_, by rw [toPy], by simp [PyData.depth], fun e q fe he => ?_⟩
    cases e <;> first | (cases fe; done) | (rw [toPy] at he; cases he; first | rfl | simp [PyData.eqv, eqF])
  | int i =>
    refine ⟨_, by rw [toPy], by simp [PyData.depth], fun e q fe he => ?_⟩
    cases e <;> first | (cases fe; done) | (rw [toPy] at he; cases he; first | rfl | simp [PyData.eqv, eqF])
  | str s =>
    refine ⟨_, by rw [toPy], by simp [PyData.depth], fun e q fe he => ?_⟩
    cases e with
    | str t =>
      rw [toPy] at he; cases he
      simp only [PyData.eqv, eqF]
      by_cases z : s = t
      · subst z; simp
      · rw [decide_eq_false z]
        simp [z]
    | _ => first | (cases fe; done) | (rw [toPy] at he; cases he; rfl)
  | _ => cases f
end
theorem eqB_ok {K : PySem.W.Frag} {m : List Addr} {H : Hp} {h : Hst} {x y : D} {v u : V} {b : Bool} (R : RH K m H h) (rx : RD K m H x v) (ry : RD K m H y u) (e : eqB x y h = some b) :
    ∃ d e, Dp K H v d ∧ Dp K H u e ∧ SeqAt.shaped d = true ∧ SeqAt.shaped e = true ∧ PyData.eqv d e = b := by
  unfold eqB at e
  split at e
  · rename_i hf
    obtain ⟨p1, e1, d1, g1⟩ := flat_py (h := h) hf.1 64
    obtain ⟨p2, e2, d2, _⟩ := flat_py (h := h) hf.2 64
    obtain ⟨a1, b1⟩ := toPy_ok R 64 _ _ _ rx e1
    obtain ⟨a2, b2⟩ := toPy_ok R 64 _ _ _ ry e2
    exact ⟨p1, p2, a1, a2, by simp [SeqAt.shaped, b1, d1], by simp [SeqAt.shaped, b2, d2], by rw [g1 _ _ hf.2 e2]; exact Option.some.inj e⟩
  · split at e
    · rename_i p1 p2 e1 e2
      split at e
      · rename_i hd
        obtain ⟨a1, b1⟩ := toPy_ok R 64 _ _ _ rx e1
        obtain ⟨a2, b2⟩ := toPy_ok R 64 _ _ _ ry e2
        exact ⟨p1, p2, a1, a2, by simp [SeqAt.shaped, b1, hd.1], by simp [SeqAt.shaped, b2, hd.2], Option.some.inj e⟩
      · cases e
    · cases e
theorem vop_eq {K : PySem.W.Frag} : Vop K (rEqD K) eqD := by
  intro W m H h x y v u σ Q R rx ry p
  unfold eqD at p
  split at p
  · rename_i b e
    obtain ⟨d, e, a1, a2, s1, s2, g⟩ := eqB_ok R rx ry e
    exact ⟨d, e, a1, a2, s1, s2, by rw [g]; exact p_bl R p⟩
  · exact p.elim
theorem vop_ne {K : PySem.W.Frag} : Vop K (rNeD K) neD := by
  intro W m H h x y v u σ Q R rx ry p
  unfold neD at p
  split at p
  · rename_i b e
    obtain ⟨d, e, a1, a2, s1, s2, g⟩ := eqB_ok R rx ry e
    exact ⟨d, e, a1, a2, s1, s2, by rw [g]; exact p_bl R p⟩
  · exact p.elim
end Mi

namespace Mi
open PySem PySem.Spec PyProof.Rows L2

/-! ### dicts: what stands at a key -/
def lookD (kvs : List (D × D)) (k : D) : Option D := match kvs with
  | [] => none
  | p :: r => if p.1 = k then some p.2 else lookD r k
def putD (kvs : List (D × D)) (k v : D) : List (D × D) :=
  if (kvs.any fun p => decide (p.1 = k)) = true then kvs.map (fun p => if p.1 = k then (p.1, v) else p) else kvs ++ [(k, v)]
def dropD (kvs : List (D × D)) (k : D) : List (D × D) := kvs.filter fun p => decide (p.1 ≠ k)
theorem keyD_inj {a b : D} {k : Key} (ha : keyD a = some k) (hb : keyD b = some k) : a = b := by
  cases a with
  | int i =>
    cases hb' : b with
    | int j => rw [hb'] at hb; simp [keyD] at ha hb; rw [← ha] at hb; simp at hb; rw [hb]
    | str t => rw [hb'] at hb; simp [keyD] at ha hb; rw [← ha] at hb; simp at hb
    | _ => rw [hb'] at hb; simp [keyD] at hb
  | str s =>
    cases hb' : b with
    | int j => rw [hb'] at hb; simp [keyD] at ha hb; rw [← ha] at hb; simp at hb
    | str t => rw [hb'] at hb; simp [keyD] at ha hb; rw [← ha] at hb; simp at hb; rw [hb]
    | _ => rw [hb'] at hb; simp [keyD] at hb
  | _ => simp [keyD] at ha
theorem keysD_inj : ∀ {as bs : List D} {ks : List Key}, keysD as = some ks → keysD bs = some ks → as = bs
  | [], [], _, _, _ => rfl
  | [], b :: bs, _, h, g => by
    simp [keysD] at h; subst h
    simp only [keysD] at g
    split at g <;> simp at g
  | a :: as, [], _, h, g => by
    simp [keysD] at g; subst g
    simp only [keysD] at h
    split at h <;> simp at h
  | a :: as, b :: bs, ks, h, g => by
    simp only [keysD] at h g
    split at h
    · rename_i k1 r1 e1 e2
      split at g
      · rename_i k2 r2 e3 e4
        cases h
        injection g with g
        injection g with g1 g2
        subst g1 g2
        rw [keyD_inj e1 e3, keysD_inj e2 e4]
      · cases g
    · cases h
theorem tkeyD_inj {a b : D} {k : List Key} (ha : tkeyD a = some k) (hb : tkeyD b = some k) : a = b := by
  cases a <;> simp [tkeyD] at ha
  cases b <;> simp [tkeyD] at hb
  rw [keysD_inj ha hb]
section
variable {K : PySem.W.Frag} {m : List Addr} {H : Hp} {κ : Type} [DecidableEq κ] {kd : D → Option κ}
def ROp (K : PySem.W.Frag) (m : List Addr) (H : Hp) : Option D → Option V → Prop
  | some d, some v => RD K m H d v
  | none, none => True
  | _, _ => False
theorem RKV.look (inj : ∀ {a b : D} {k : κ}, kd a = some k → kd b = some k → a = b) {d : D} {c : κ} (hd : kd d = some c) : ∀ {kvs : List (D × D)} {ws : List (κ × V)}, RKV K m H kd kvs ws → ROp K m H (lookD kvs d) (valV ws c)
  | _, _, .nil => by simp [lookD, valV, ROp]
  | _, _, .cons (k := k) (d := x) (c := e) (v := v) (kvs := kvs) (ws := ws) hk r rs => by
    unfold lookD
    by_cases z : k = d
    · subst z
      rw [hd] at hk
      cases hk
      rw [if_pos rfl, valV_pos rfl]
      exact r
    · rw [if_neg z, valV_neg (fun q => z (by
        have q : e = c := q
        subst q
        exact inj hk hd))]
      exact RKV.look inj hd rs
theorem RKV.put (inj : ∀ {a b : D} {k : κ}, kd a = some k → kd b = some k → a = b) {d x : D} {c : κ} {v : V} (hd : kd d = some c) (r : RD K m H x v) {kvs : List (D × D)} {ws : List (κ × V)} (rs : RKV K m H kd kvs ws) : RKV K m H kd (putD kvs d x) (putK ws c v) := by
  -- by the two forms of a store
  have key : ∀ {kvs : List (D × D)} {ws : List (κ × V)}, RKV K m H kd kvs ws → (ws.any fun kv => decide (kv.1 = c)) = (kvs.any fun kv => decide (kv.1 = d)) := by
    intro kvs ws rs
    induction rs with
    | nil => rfl
    | @cons k y e w kvs ws hk r rs ih =>
      rw [List.any_cons, List.any_cons, ih]
      congr 1
      by_cases z : k = d
      · subst z
        rw [hd] at hk; cases hk
        simp
      · have : ¬ e = c := fun q => z (by subst q; exact inj hk hd)
        simp [z, this]
  have app : ∀ {kvs : List (D × D)} {ws : List (κ × V)}, RKV K m H kd kvs ws → RKV K m H kd (kvs ++ [(d, x)]) (ws ++ [(c, v)]) := by
    intro kvs ws rs
    induction rs with
    | nil => exact .cons hd r .nil
    | cons hk r' rs ih => exact .cons hk r' ih
  have rep : ∀ {kvs : List (D × D)} {ws : List (κ × V)}, RKV K m H kd kvs ws → RKV K m H kd (kvs.map fun p => if p.1 = d then (p.1, x) else p) (ws.map fun kv => if kv.1 = c then (kv.1, v) else kv) := by
    intro kvs ws rs
    induction rs with
    | nil => exact .nil
    | @cons k y e w kvs ws hk r' rs ih =>
      rw [List.map_cons, List.map_cons]
      by_cases z : k = d
      · subst z
        rw [hd] at hk; cases hk
        rw [if_pos rfl, if_pos rfl]
        exact .cons hd r ih
      · have z2 : ¬ e = c := fun q => z (by subst q; exact inj hk hd)
        rw [if_neg z, if_neg z2]
        exact .cons hk r' ih
  unfold putD L2.putK
  rw [key rs]
  split
  · exact rep rs
  · exact app rs
theorem RKV.drop (inj : ∀ {a b : D} {k : κ}, kd a = some k → kd b = some k → a = b) {d : D} {c : κ} (hd : kd d = some c) {kvs : List (D × D)} {ws : List (κ × V)} (rs : RKV K m H kd kvs ws) : RKV K m H kd (dropD kvs d) (dropK ws c) := by
  unfold dropD L2.dropK
  induction rs with
  | nil => exact .nil
  | @cons k y e w kvs ws hk r' rs ih =>
    by_cases z : k = d
    · subst z
      rw [hd] at hk; cases hk
      simpa using ih
    · have z2 : ¬ e = c := fun q => z (by subst q; exact inj hk hd)
      rw [List.filter_cons_of_pos (by simpa using z), List.filter_cons_of_pos (by simpa using z2)]
      exact .cons hk r' ih
end
/-- a key's answer in the dict -/
def dGet (kvs : List (D × D)) (tk : Bool) (k : D) : Option (Option D) := match tk with
  | false => if (keyD k).isSome = true then some (lookD kvs k) else none
  | true => if (tkeyD k).isSome = true then some (lookD kvs k) else none
theorem keyD_rel {K : PySem.W.Frag} {m : List Addr} {H : Hp} {d : D} {v : V} {k : Key} (r : RD K m H d v) (e : keyD d = some k) : v = kV k := by
  cases r with
  | int i => simp [keyD] at e; subst e; rfl
  | str b => simp [keyD] at e; subst e; rfl
  | _ => simp [keyD] at e
theorem keysD_rel {K : PySem.W.Frag} {m : List Addr} {H : Hp} : ∀ {ds : List D} {vs : List V} {ks : List Key}, RDs K m H ds vs → keysD ds = some ks → vs = ks.map kV
  | _, _, _, .nil, e => by simp [keysD] at e; subst e; rfl
  | _, _, _, .cons r rs, e => by
    simp only [keysD] at e
    split at e
    · rename_i k ks e1 e2
      cases e
      rw [keyD_rel r e1, keysD_rel rs e2]
      rfl
    · cases e
section
variable {K : PySem.W.Frag} {m : List Addr} {H : Hp} {h : Hst} {n : Nat} {a : Addr} {tk : Bool} {kvs : List (D × D)} {d : D} {y : V}
theorem dGet_ok (R : RH K m H h) (ha : m[n]? = some a) (e : h[n]? = some (.dic tk kvs)) (r : RD K m H d y) {o : Option D} (g : dGet kvs tk d = some o) : ∃ ov, DGet H a y ov ∧ ROp K m H o ov := by
  cases tk with
  | false =>
    obtain ⟨ws, q, rs⟩ := R.look ha e
    unfold dGet at g
    dsimp only at g
    split at g
    · rename_i hk
      obtain ⟨k, hk⟩ := Option.isSome_iff_exists.mp hk
      cases g
      rw [keyD_rel r hk]
      exact ⟨_, .k q, rs.look keyD_inj hk⟩
    · cases g
  | true =>
    obtain ⟨ws, q, rs⟩ := R.look ha e
    unfold dGet at g
    dsimp only at g
    split at g
    · rename_i hk
      obtain ⟨k, hk⟩ := Option.isSome_iff_exists.mp hk
      cases g
      cases r with
      | tup l q2 r2 =>
        have e2 := keysD_rel r2 (show keysD _ = some k from hk)
        subst e2
        exact ⟨_, .t q q2, rs.look tkeyD_inj hk⟩
      | _ => simp [tkeyD] at hk
    · cases g
def dPut (kvs : List (D × D)) (tk : Bool) (k v : D) : Option (List (D × D)) := match tk with
  | false => if (keyD k).isSome = true ∧ kvs.length < 16777216 then some (putD kvs k v) else none
  | true => if (tkeyD k).isSome = true ∧ kvs.length < 16777216 then some (putD kvs k v) else none
theorem dPut_ok (R : RH K m H h) (ha : m[n]? = some a) (e : h[n]? = some (.dic tk kvs)) (r : RD K m H d y) {x : D} {v : V} (rx : RD K m H x v) {kvs' : List (D × D)} (g : dPut kvs tk d x = some kvs') :
    ∃ H', DPut H a y v H' ∧ Ext K m H m H' ∧ RH K m H' (h.set n (.dic tk kvs')) := by
  have mu : Mut (H a) := by obtain ⟨u, q, z⟩ := (R.look ha e).here; rw [q]; exact z
  have xt : ∀ o, Ext K m H m (upd H a o) := fun o => Ext.write ha mu
  cases tk with
  | false =>
    obtain ⟨ws, q, rs⟩ := R.look ha e
    unfold dPut at g
    dsimp only at g
    split at g
    · rename_i hk
      obtain ⟨k, hk1⟩ := Option.isSome_iff_exists.mp hk.1
      cases g
      rw [keyD_rel r hk1]
      have l := rs.length
      exact ⟨_, .k q (by rw [sl_eq]; omega), xt _, R.write ha ⟨_, upd_same, (rs.put keyD_inj hk1 rx).mono (xt _).e⟩⟩
    · cases g
  | true =>
    obtain ⟨ws, q, rs⟩ := R.look ha e
    unfold dPut at g
    dsimp only at g
    split at g
    · rename_i hk
      obtain ⟨k, hk1⟩ := Option.isSome_iff_exists.mp hk.1
      cases g
      cases r with
      | tup l q2 r2 =>
        have e2 := keysD_rel r2 (show keysD _ = some k from hk1)
        subst e2
        have l := rs.length
        exact ⟨_, .t q q2 (by rw [sl_eq]; omega), xt _, R.write ha ⟨_, upd_same, (rs.put tkeyD_inj hk1 rx).mono (xt _).e⟩⟩
      | _ => simp [tkeyD] at hk1
    · cases g
end

/-! ### in -/
def inB (x y : D) (h : Hst) : Option Bool := match y with
  | .str s => match x with
    | .str [c] => some (decide (c ∈ s))
    | _ => none
  | .tup xs => if flatD x = true ∧ xs.all flatD = true then some (xs.any fun z => eqF z x) else none
  | .sl xs => if flatD x = true ∧ xs.all flatD = true then some (xs.any fun z => eqF z x) else none
  | .ref n => match h[n]? with
    | some (.lst xs) => if flatD x = true ∧ xs.all flatD = true then some (xs.any fun z => eqF z x) else none
    | some (.dic tk kvs) => match dGet kvs tk x with
      | some o => some o.isSome
      | none => none
    | _ => none
  | _ => none
def inD (x y : D) (h : Hst) : Res D := match inB x y h with
  | some b => .ok (.bl b) h
  | none => .bad
def ninD (x y : D) (h : Hst) : Res D := match inB x y h with
  | some b => .ok (.bl (!b)) h
  | none => .bad
def rInA (K : PySem.W.Frag) (neg : Bool) : R2 := fun x y H Q => ∃ b, (if neg then Q (.bl (!b)) H else Q (.bl b) H) ∧
  ((∃ (c : Nat) (z : Str), x = .str ⟨#[c]⟩ ∧ y = .str z ∧ b = decide (c ∈ z.cps.toList)) ∨ (∃ p xs, y = .ref p ∧ (SqL K H p xs ∨ SqT K H p xs) ∧ flatV x = true ∧ xs.all flatV = true ∧ b = inV x xs) ∨ ∃ a o, y = .ref a ∧ DGet H a x o ∧ b = o.isSome)
theorem op_inA {X : Cx} (hu : X.A.units + 1 < cLine) : OpR X (compareOp .In) (rInA X.K false) := by
  intro pins s σ H x y v u Q I rx ry h
  obtain ⟨b, q, h⟩ := h
  simp only [Bool.false_eq_true, if_false] at q
  rcases h with ⟨c, z, rfl, rfl, rfl⟩ | ⟨p, xs, rfl, hs, f1, f2, rfl⟩ | ⟨a, o, rfl, g, rfl⟩
  · exact op_in_sign pins s σ H _ _ v u Q I rx ry ⟨c, z, rfl, rfl, q⟩
  · exact op_in_seq pins s σ H _ _ v u Q I rx ry ⟨p, xs, rfl, hs, f1, f2, by simpa using q⟩
  · cases ry
    exact d_in hu I g rx fun s' I' => ⟨.bl _, H, I', rfl, q⟩
theorem op_ninA {X : Cx} (hu : X.A.units + 1 < cLine) : OpR X (compareOp .NotIn) (rInA X.K true) := by
  intro pins s σ H x y v u Q I rx ry h
  obtain ⟨b, q, h⟩ := h
  simp only [if_true] at q
  rcases h with ⟨c, z, rfl, rfl, rfl⟩ | ⟨p, xs, rfl, hs, f1, f2, rfl⟩ | ⟨a, o, rfl, g, rfl⟩
  · exact op_notIn_sign pins s σ H _ _ v u Q I rx ry ⟨c, z, rfl, rfl, q⟩
  · exact op_notIn_seq pins s σ H _ _ v u Q I rx ry ⟨p, xs, rfl, hs, f1, f2, by simpa using q⟩
  · cases ry
    exact d_notIn hu I g rx fun s' I' => ⟨.bl _, H, I', rfl, q⟩
section
variable {K : PySem.W.Frag} {m : List Addr} {H : Hp} {h : Hst}
theorem flat_rel {d : D} {v : V} (r : RD K m H d v) (f : flatD d = true) : flatV v = true := by
  cases r <;> first | rfl | cases f
theorem eqF_rel {d e : D} {v u : V} (r : RD K m H d v) (q : RD K m H e u) (f : flatD d = true) (g : flatD e = true) : eqV v u = eqF d e := by
  cases r <;> first | (cases f; done) | (cases q <;> first | (cases g; done) | rfl | (simp [eqV, eqF]))
  rename_i s hs t ht
  by_cases z : s = t
  · subst z; simp
  · simp [z]
theorem flats_rel : ∀ {ds : List D} {vs : List V}, RDs K m H ds vs → ds.all flatD = true → vs.all flatV = true
  | _, _, .nil, _ => rfl
  | _, _, .cons r rs, f => by
    rw [List.all_cons, Bool.and_eq_true] at f ⊢
    exact ⟨flat_rel r f.1, flats_rel rs f.2⟩
theorem any_rel {d : D} {v : V} (r : RD K m H d v) (f : flatD d = true) : ∀ {ds : List D} {vs : List V}, RDs K m H ds vs → ds.all flatD = true → inV v vs = ds.any fun z => eqF z d
  | _, _, .nil, _ => rfl
  | _, _, .cons q rs, g => by
    rw [List.all_cons, Bool.and_eq_true] at g
    unfold inV
    rw [List.any_cons, List.any_cons, eqF_rel q r g.1 f]
    exact congrArg _ (any_rel r f rs g.2)
theorem ROp.some_eq {o : Option D} {ov : Option V} (r : ROp K m H o ov) : ov.isSome = o.isSome := by
  cases o <;> cases ov <;> first | rfl | exact r.elim
theorem inB_ok {x y : D} {v u : V} {b : Bool} (R : RH K m H h) (rx : RD K m H x v) (ry : RD K m H y u) (e : inB x y h = some b) :
    (∃ (c : Nat) (z : Str), v = .str ⟨#[c]⟩ ∧ u = .str z ∧ b = decide (c ∈ z.cps.toList)) ∨ (∃ p xs, u = .ref p ∧ (SqL K H p xs ∨ SqT K H p xs) ∧ flatV v = true ∧ xs.all flatV = true ∧ b = inV v xs) ∨ ∃ a o, u = .ref a ∧ DGet H a v o ∧ b = o.isSome := by
  unfold inB at e
  split at e
  · split at e
    · cases rx; cases ry
      cases e
      exact .inl ⟨_, _, rfl, rfl, by simp⟩
    · cases e
  · split at e
    · rename_i hf
      cases e
      cases ry with
      | tup l q r => exact .inr (.inl ⟨_, _, rfl, .inr (.of q), flat_rel rx hf.1, flats_rel r hf.2, (any_rel rx hf.1 r hf.2).symm⟩)
    · cases e
  · split at e
    · rename_i hf
      cases e
      cases ry with
      | sl l q r => exact .inr (.inl ⟨_, _, rfl, .inl q.seq, flat_rel rx hf.1, flats_rel r hf.2, (any_rel rx hf.1 r hf.2).symm⟩)
    · cases e
  · cases ry with
    | ref ha =>
      split at e
      · rename_i xs he
        split at e
        · rename_i hf
          cases e
          obtain ⟨_, vs, q, r⟩ := R.look ha he
          exact .inr (.inl ⟨_, _, rfl, .inl (.of q), flat_rel rx hf.1, flats_rel r hf.2, (any_rel rx hf.1 r hf.2).symm⟩)
        · cases e
      · rename_i tk kvs he
        split at e
        · rename_i o g
          cases e
          obtain ⟨ov, g1, g2⟩ := dGet_ok R ha he rx g
          exact .inr (.inr ⟨_, ov, rfl, g1, g2.some_eq.symm⟩)
        · cases e
      · cases e
  · cases e
end
theorem vop_in {K : PySem.W.Frag} : Vop K (rInA K false) inD := by
  intro W m H h x y v u σ Q R rx ry p
  unfold inD at p
  split at p
  · rename_i b e
    exact ⟨b, by simpa using p_bl R p, inB_ok R rx ry e⟩
  · exact p.elim
theorem vop_nin {K : PySem.W.Frag} : Vop K (rInA K true) ninD := by
  intro W m H h x y v u σ Q R rx ry p
  unfold ninD at p
  split at p
  · rename_i b e
    exact ⟨b, by simpa using p_bl R p, inB_ok R rx ry e⟩
  · exact p.elim

/-! ### a[b] -/
def ixD (x y : D) (h : Hst) : Res D := match x, y with
  | .tup xs, .int i => match atI xs i with
    | some d => .ok d h
    | none => .bad
  | .sl xs, .int i => match atI xs i with
    | some d => .ok d h
    | none => .bad
  | .str s, .int i => match atI s i with
    | some c => .ok (.str [c]) h
    | none => .bad
  | .ref n, k => match h[n]? with
    | some (.lst xs) => match k with
      | .int i => match atI xs i with
        | some d => .ok d h
        | none => .bad
      | _ => .bad
    | some (.dic tk kvs) => match dGet kvs tk k with
      | some (some d) => .ok d h
      | _ => .bad
    | _ => .bad
  | _, _ => .bad
def rIxA (K : PySem.W.Frag) : R2 := fun x y H Q => rIx K x y H Q ∨ ∃ a v, x = .ref a ∧ DGet H a y (some v) ∧ Q v H
theorem ix_A {X : Cx} (hu : X.A.units + 1 < cLine) : IxR X (rIxA X.K) := ix_seq.or (by
  intro value slice pins s σ H x y v u Q I rx ry q hs
  obtain ⟨a, w, rfl, g, q⟩ := q
  cases rx
  exact tail_any (dict_typeIs I g) PySem.F.slot_dict_getitem.lookup (d_getItem hu I g ry fun w' s3 I3 rw' => ⟨w, H, I3, rw', q⟩) hs)
theorem RDs.atI {K : PySem.W.Frag} {m : List Addr} {H : Hp} {ds : List D} {vs : List V} (r : RDs K m H ds vs) {i : Int} {d : D} (e : L2.atI ds i = some d) : ∃ v, L2.atI vs i = some v ∧ RD K m H d v := by
  unfold L2.atI at e ⊢
  rw [← r.length]
  cases q : ixN ds.length i with
  | none => rw [q] at e; cases e
  | some j =>
    rw [q] at e
    exact r.get (show ds[j]? = some d from e)
theorem atI_mem {α : Type} {xs : List α} {i : Int} {c : α} (e : L2.atI xs i = some c) : c ∈ xs := by
  unfold L2.atI at e
  cases q : ixN xs.length i with
  | none => rw [q] at e; cases e
  | some j => rw [q] at e; exact List.mem_of_getElem? (show xs[j]? = some c from e)
theorem vop_ix {K : PySem.W.Frag} : Vop K (rIxA K) ixD := by
  intro W m H h x y v u σ Q R rx ry p
  unfold ixD at p
  split at p
  · split at p
    · rename_i d e
      cases ry
      cases rx with
      | tup l q r =>
        obtain ⟨w, e1, r1⟩ := r.atI e
        exact .inl (.inr (.inl ⟨_, _, _, w, rfl, rfl, .of q, e1, po_ok p R r1⟩))
    · exact p.elim
  · split at p
    · rename_i d e
      cases ry
      cases rx with
      | sl l q r =>
        obtain ⟨w, e1, r1⟩ := r.atI e
        exact .inl (.inl ⟨_, _, _, w, rfl, rfl, q.seq, e1, po_ok p R r1⟩)
    · exact p.elim
  · split at p
    · rename_i c e
      cases ry
      cases rx with
      | str b =>
        have hc := atI_mem e
        refine .inl (.inr (.inr ⟨_, _, c, rfl, rfl, by rw [str_len]; exact b.len, by simpa using e, ?_⟩))
        exact po_ok p R (.str (s := [c]) ⟨by rw [sl_eq]; simp, fun z hz => by
          have : z = c := by simpa using hz
          rw [this]; exact b.cp c hc⟩)
    · exact p.elim
  · cases rx with
    | ref ha =>
      split at p
      · rename_i he
        obtain ⟨_, vs, q, r⟩ := R.look ha he
        split at p
        · split at p
          · rename_i d e
            cases ry
            obtain ⟨w, e1, r1⟩ := r.atI e
            exact .inl (.inl ⟨_, _, _, w, rfl, rfl, .of q, e1, po_ok p R r1⟩)
          · exact p.elim
        · exact p.elim
      · rename_i tk kvs he
        split at p
        · rename_i d g
          obtain ⟨ov, g1, g2⟩ := dGet_ok R ha he ry g
          cases ov with
          | none => exact g2.elim
          | some w => exact .inr ⟨_, w, rfl, g1, po_ok p R g2⟩
        · exact p.elim
      · exact p.elim
  · exact p.elim
section
variable {X : Cx} {W : WX} {a b : Expr} {pos : Pos}
theorem se_ix (hu : X.A.units + 1 < cLine) {fa fb : Ev} (ha : SE X W a fa) (hb : SE X W b fb) (hs : PlainIx b := by intro _ _; rfl) : SE X W (.Subscript a b pos) (vB ixD fa fb) :=
  viaE (pe_ix (ix_A hu) ha hb hs) (rd_bin vop_ix)
end
end Mi

namespace Mi
open PySem PySem.Spec PyProof.Rows L2

/-! ### slices -/
abbrev EvO := En → Hst → Res (Option Int)
def RdO (K : PySem.W.Frag) (W : WX) (f : EvO) : TO := fun σ H Q => ∃ m en h, RH K m H h ∧ REn K m H en σ ∧ Po K W (fun _ _ a b => a = b) m H σ (f en h) Q
abbrev SO (X : Cx) (W : WX) (e : Option Expr) (f : EvO) : Prop := PO X e (RdO X.K W f)
def oN : EvO := fun _ h => .ok none h
def oS (f : Ev) : EvO := fun en h => (f en h).bind fun d h1 => match d with
  | .int i => .ok (some i) h1
  | _ => .bad
def cutL {α : Type} (xs : List α) (lo hi : Option Int) : List α := (xs.drop (HT.sIx xs.length 0 lo)).take (HT.sIx xs.length xs.length hi - HT.sIx xs.length 0 lo)
theorem cutL_len {α : Type} (xs : List α) (lo hi : Option Int) : (cutL xs lo hi).length ≤ xs.length := by
  unfold cutL
  rw [List.length_take, List.length_drop]
  omega
theorem RDs.cut {K : PySem.W.Frag} {m : List Addr} {H : Hp} {ds : List D} {vs : List V} (r : RDs K m H ds vs) (lo hi : Option Int) : RDs K m H (cutL ds lo hi) (cutV vs lo hi) := by
  unfold cutL cutV
  rw [r.length]
  exact (r.drop _).take _
def slD (x : D) (lo hi : Option Int) (h : Hst) : Res D := match x with
  | .tup xs => .ok (.tup (cutL xs lo hi)) h
  | .sl xs => .ok (.ref h.length) (h ++ [.lst (cutL xs lo hi)])
  | .str s => .ok (.str (cutL s lo hi)) h
  | .ref n => match h[n]? with
    | some (.lst xs) => .ok (.ref h.length) (h ++ [.lst (cutL xs lo hi)])
    | _ => .bad
  | _ => .bad
def rSlM (K : PySem.W.Frag) : V → Option Int → Option Int → Hp → VK → Prop := fun x lo hi H Q => rSlL K x lo hi H Q ∨ rSlA K x lo hi H Q ∨ rSlS x lo hi H Q
theorem sl_M {X : Cx} : SlR X (rSlM X.K) := sl_list.or (sl_tupA.or sl_str)
theorem cutL_all {α : Type} {xs : List α} {lo hi : Option Int} (h : HT.sIx xs.length 0 lo = 0 ∧ HT.sIx xs.length xs.length hi = xs.length) : cutL xs lo hi = xs := by
  unfold cutL
  rw [h.1, h.2]
  simp
theorem cutS_eq (s : List Nat) (lo hi : Option Int) : cutS ⟨s.toArray⟩ lo hi = ⟨(cutL s lo hi).toArray⟩ := by
  unfold L2.cutS cutL
  simp [Str.length]
theorem cutL_mem {α : Type} {xs : List α} {lo hi : Option Int} {c : α} (h : c ∈ cutL xs lo hi) : c ∈ xs := List.mem_of_mem_drop (List.mem_of_mem_take h)
section
variable {X : Cx} {W : WX} {e : Expr} {lo hi : Option Expr} {p2 pos : Pos}
theorem so_none : SO X W none oN := ⟨fun pins s σ H Q I ⟨m, en, h, R, E, p⟩ => po_none.run pins s σ H Q I (po_ok (rel := fun _ _ a b => a = b) p R rfl)⟩
theorem so_some {f : Ev} (h : SE X W e f) : SO X W (some e) (oS f) := ⟨fun pins s σ H Q I ⟨m, en, hh, R, E, p⟩ => (po_some h).run pins s σ H Q I ⟨m, en, hh, R, E, Po.imp (Po.bind (rel := RD X.K) p) fun x H1 ⟨m1, d, h1, x1, R1, ra, p1⟩ => by
  cases ra with
  | int i => exact ⟨i, rfl, po_ok (rel := fun _ _ a b => a = b) p1 R1 rfl⟩
  | _ => exact p1.elim⟩⟩
def vSl (f : Ev) (l u : EvO) : Ev := fun en h => (f en h).bind fun x h1 => (l en h1).bind fun a h2 => (u en h2).bind fun b h3 => slD x a b h3
theorem se_slice {f : Ev} {l u : EvO} (he : SE X W e f) (hl : SO X W lo l) (hu : SO X W hi u) : SE X W (.Subscript e (.Slice lo hi none p2) pos) (vSl f l u) :=
  viaE (pe_slice sl_M he hl hu) fun σ H Q ⟨m, en, h, R, E, p⟩ => ⟨m, en, h, R, E, Po.imp (Po.bind (rel := RD X.K) p) fun x H1 ⟨m1, d, h1, x1, R1, ra, p1⟩ =>
    ⟨m1, en, h1, R1, E.mono x1, Po.imp (Po.bind (rel := fun _ _ a b => a = b) p1) fun i H2 ⟨m2, a, h2, x2, R2, ea, p2⟩ =>
    ⟨m2, en, h2, R2, E.mono (x1.trans x2), Po.imp (Po.bind (rel := fun _ _ a b => a = b) p2) fun j H3 ⟨m3, b, h3, x3, R3, eb, p3⟩ => by
      subst ea eb
      have r := ra.mono (x2.trans x3).e
      unfold slD at p3
      split at p3
      · cases r with
        | tup l q rs =>
          have el := rs.length
          refine .inr (.inl ⟨_, _, rfl, .of q, fun z => ?_, fun _ => new_tup R3 (rs.cut _ _) (Nat.le_trans (cutL_len _ _ _) (by rw [← sl_eq]; exact l)) p3⟩)
          rw [← el] at z
          rw [cutL_all z] at p3
          exact po_ok p3 R3 (.tup l q rs)
      · cases r with
        | sl l q rs => exact .inl ⟨_, _, rfl, q.seq, new_lst R3 (rs.cut _ _) (Nat.le_trans (cutL_len _ _ _) (by rw [← sl_eq]; exact l)) p3⟩
      · cases r with
        | str bb => exact .inr (.inr ⟨_, rfl, by rw [str_len]; exact bb.len, by rw [cutS_eq]; exact po_ok p3 R3 (.str ⟨Nat.le_trans (cutL_len _ _ _) bb.len, fun c hc => bb.cp c (cutL_mem hc)⟩)⟩)
      · split at p3
        · rename_i xs he
          cases r with
          | ref ha =>
            obtain ⟨l, vs, q, rs⟩ := R3.look ha he
            exact .inl ⟨_, _, rfl, .of q, new_lst R3 (rs.cut _ _) (Nat.le_trans (cutL_len _ _ _) (by rw [← sl_eq]; exact l)) p3⟩
        · exact p3.elim
      · exact p3.elim⟩⟩⟩
/-- xs[::-1] of a list -/
def revD (x : D) (h : Hst) : Res D := match x with
  | .sl xs => .ok (.ref h.length) (h ++ [.lst xs.reverse])
  | .ref n => match h[n]? with
    | some (.lst xs) => .ok (.ref h.length) (h ++ [.lst xs.reverse])
    | _ => .bad
  | _ => .bad
theorem se_rev {f : Ev} {k : Nat} {p1 p2 p3 : Pos} (he : SE X W e f) : SE X W (.Subscript e (.Slice none none (some (.UnaryOp .USub (.Constant (.int 1) k p1) p2)) p3) pos) (vU revD f) :=
  viaE (pe_revL he) fun σ H Q ⟨m, en, h, R, E, p⟩ => ⟨m, en, h, R, E, Po.imp (Po.bind (rel := RD X.K) p) fun x H1 ⟨m1, d, h1, x1, R1, r, p1⟩ => by
    unfold revD at p1
    split at p1
    · cases r with
      | sl l q rs => exact ⟨_, _, rfl, q.seq, new_lst R1 rs.reverse (by rw [List.length_reverse, ← sl_eq]; exact l) p1⟩
    · split at p1
      · rename_i xs he
        cases r with
        | ref ha =>
          obtain ⟨l, vs, q, rs⟩ := R1.look ha he
          exact ⟨_, _, rfl, .of q, new_lst R1 rs.reverse (by rw [List.length_reverse, ← sl_eq]; exact l) p1⟩
      · exact p1.elim
    · exact p1.elim⟩
theorem se_neg {f : Ev} (he : SE X W e f) : SE X W (.UnaryOp .USub e pos) (vU negD f) :=
  viaE (pe_un un_neg he) fun σ H Q ⟨m, en, h, R, E, p⟩ => ⟨m, en, h, R, E, Po.imp (Po.bind (rel := RD X.K) p) fun x H1 ⟨m1, d, h1, x1, R1, r, p1⟩ => by
    unfold negD at p1
    split at p1
    · cases r
      exact ⟨_, rfl, p_int R1 p1⟩
    · exact p1.elim⟩
end

/-! ### calls of built-ins -/
def Vcall (K : PySem.W.Frag) (r : List V → Hp → VK → Prop) (g : List D → Hst → Res D) : Prop := ∀ (W : WX) (m : List Addr) (H : Hp) (h : Hst) (ds : List D) (vs : List V) (σ : L2.St) (Q : VK), RH K m H h → RDs K m H ds vs → Po K W (RD K) m H σ (g ds h) Q → r vs H Q
def vCall (g : List D → Hst → Res D) (f : Evs) : Ev := fun en h => (f en h).bind fun ds h1 => g ds h1
section
variable {X : Cx} {W : WX} {e : Expr} {es : List Expr} {p pos : Pos} {x : Str} {id T : String} {r : List V → Hp → VK → Prop} {g : List D → Hst → Res D} {f : Evs}
theorem rd_call {K : PySem.W.Frag} (hg : Vcall K r g) : ∀ σ H Q, RdE K W (vCall g f) σ H Q → tCB r (RdA K W f) σ H Q := by
  rintro σ H Q ⟨m, en, h, R, E, p⟩
  exact ⟨m, en, h, R, E, Po.imp (Po.bind (rel := RDs K) p) fun xs H1 ⟨m1, ds, h1, x1, R1, rs, p1⟩ => hg W m1 H1 h1 ds xs σ Q R1 rs p1⟩
theorem se_callB (hc : CallR X (.builtin id) r) (hv : Vcall X.K r g) (hg : Gl X x) (hm : X.mg x = none) (ha : SA X W (e :: es) f) (hb : bootBuiltins x = some (.builtin id) := by decide +kernel) (hn : x ≠ "__name__" := by decide) (hdb : (x == ("__debug__" : Str)) = false := by decide)
    (he : starEach (e :: es) X.env = (false, eval e X.env) :: starEach es X.env := by rfl) (hpl : (backTo pos (starEach es X.env)).any (·.1) = false := by rfl) : SE X W (.Call (.Name x p) (e :: es) [] pos) (vCall g f) :=
  viaE (pe_callB hc hg hm hb ha hn hdb he hpl) (rd_call hv)
theorem se_callT (hc : CallR X (.type T) r) (hv : Vcall X.K r g) (hg : Gl X x) (hm : X.mg x = none) (ha : SA X W (e :: es) f) (hb : bootBuiltins x = some (.type T) := by decide +kernel) (hn : x ≠ "__name__" := by decide) (hdb : (x == ("__debug__" : Str)) = false := by decide)
    (he : starEach (e :: es) X.env = (false, eval e X.env) :: starEach es X.env := by rfl) (hpl : (backTo pos (starEach es X.env)).any (·.1) = false := by rfl) : SE X W (.Call (.Name x p) (e :: es) [] pos) (vCall g f) :=
  viaE (pe_callTy hc hg hm hb ha hn hdb he hpl) (rd_call hv)
end
section
variable {K : PySem.W.Frag}
def lenD (ds : List D) (h : Hst) : Res D := match ds with
  | [.str s] => .ok (.int s.length) h
  | [.tup xs] => .ok (.int xs.length) h
  | [.sl xs] => .ok (.int xs.length) h
  | [.ref n] => match h[n]? with
    | some (.lst xs) => .ok (.int xs.length) h
    | some (.dic false kvs) => .ok (.int kvs.length) h
    | _ => .bad
  | _ => .bad
def rLenM (K : PySem.W.Frag) : List V → Hp → VK → Prop := fun xs H Q => (∃ x n, xs = [x] ∧ LenV K x H n ∧ Q (.int n) H) ∨ ∃ a kvs, xs = [.ref a] ∧ H a = some (.dK kvs) ∧ Q (.int kvs.length) H
theorem call_lenM {X : Cx} : CallR X (.builtin "len") (rLenM X.K) := call_len.or (by
  intro pins s σ H xs us Q I r h
  obtain ⟨a, kvs, rfl, e, q⟩ := h
  rw [Vals.ref1 r]
  exact d_len I (.inl e) fun t s' I' => ⟨.int kvs.length, H, I', ⟨t, rfl⟩, q⟩)
theorem vc_len : Vcall K (rLenM K) lenD := by
  intro W m H h ds vs σ Q R rs p
  unfold lenD at p
  split at p
  · cases rs with
    | cons r rs => cases rs; cases r with
      | str b => exact .inl ⟨_, _, rfl, ⟨by rw [str_len]; exact b.len, rfl⟩, by rw [str_len]; exact p_int R p⟩
  · cases rs with
    | cons r rs => cases rs; cases r with
      | tup l q r => exact .inl ⟨_, _, rfl, .inr ⟨_, .of q, rfl⟩, by rw [← r.length]; exact p_int R p⟩
  · cases rs with
    | cons r rs => cases rs; cases r with
      | sl l q r => exact .inl ⟨_, _, rfl, .inl ⟨_, q.seq, rfl⟩, by rw [← r.length]; exact p_int R p⟩
  · cases rs with
    | cons r rs => cases rs; cases r with
      | ref ha =>
        split at p
        · rename_i he
          obtain ⟨_, vs, q, r⟩ := R.look ha he
          exact .inl ⟨_, _, rfl, .inl ⟨_, .of q, rfl⟩, by rw [← r.length]; exact p_int R p⟩
        · rename_i he
          obtain ⟨ws, q, r⟩ := R.look ha he
          exact .inr ⟨_, _, rfl, q, by rw [← r.length]; exact p_int R p⟩
        · exact p.elim
  · exact p.elim
def absD (ds : List D) (h : Hst) : Res D := match ds with
  | [.int i] => .ok (.int (if i < 0 then -i else i)) h
  | _ => .bad
theorem vc_abs : Vcall K (fun xs H Q => ∃ i, xs = [.int i] ∧ Q (.int (if i < 0 then -i else i)) H) absD := by
  intro W m H h ds vs σ Q R rs p
  unfold absD at p
  split at p
  · cases rs with
    | cons r rs => cases rs; cases r; exact ⟨_, rfl, p_int R p⟩
  · exact p.elim
def intC (ds : List D) (h : Hst) : Res D := match ds with
  | [.int i] => .ok (.int i) h
  | [.bl k] => .ok (.int (if k then 1 else 0)) h
  | _ => .bad
theorem vc_int : Vcall K (fun xs H Q => (∃ i, xs = [.int i] ∧ Q (.int i) H) ∨ ∃ k, xs = [.bl k] ∧ Q (.int (if k then 1 else 0)) H) intC := by
  intro W m H h ds vs σ Q R rs p
  unfold intC at p
  split at p
  · cases rs with
    | cons r rs => cases rs; cases r; exact .inl ⟨_, rfl, p_int R p⟩
  · cases rs with
    | cons r rs => cases rs; cases r; exact .inr ⟨_, rfl, p_int R p⟩
  · exact p.elim
/-- the signs of a number -/
def decI (i : Int) : List Nat := (toString i).toList.map Char.toNat
theorem decI_str (i : Int) : ((toString i : String) : Str) = ⟨(decI i).toArray⟩ := by
  show Str.ofString _ = _
  rw [Str.ofString_eq_toList]; rfl
theorem char_lt (c : Char) : c.toNat < 1114112 := by
  have h := c.valid
  simp only [UInt32.isValidChar, Nat.isValidChar] at h
  show c.val.toNat < _
  omega
theorem digs_len : ∀ (fuel n k : Nat) (ds : List Char), n < 10 ^ (k + 1) → (Nat.toDigitsCore 10 fuel n ds).length ≤ ds.length + (k + 1)
  | 0, n, k, ds, _ => by simp [Nat.toDigitsCore]
  | fuel + 1, n, k, ds, h => by
    unfold Nat.toDigitsCore
    dsimp only
    split
    · rw [List.length_cons]; omega
    · rename_i hz
      cases k with
      | zero =>
        have : n / 10 = 0 := by simp at h; omega
        exact absurd this hz
      | succ k =>
        have h2 : n / 10 < 10 ^ (k + 1) := by
          rw [Nat.pow_succ] at h
          omega
        have := digs_len fuel (n / 10) k (Nat.digitChar (n % 10) :: ds) h2
        rw [List.length_cons] at this
        omega
/-- the signs of a number are few -/
theorem decI_len {i : Int} (h : i.natAbs < 10 ^ 60) : (decI i).length ≤ 62 := by
  unfold decI
  rw [List.length_map]
  have g : ∀ n : Nat, n < 10 ^ 60 → (Nat.repr n).toList.length ≤ 60 := by
    intro n hn
    show (String.ofList (Nat.toDigits 10 n)).toList.length ≤ 60
    rw [String.toList_ofList]
    have := digs_len (n + 1) n 59 [] hn
    simpa [Nat.toDigits] using this
  cases i with
  | ofNat n =>
    have := g n (by simpa using h)
    show (Nat.repr n).toList.length ≤ 62
    omega
  | negSucc n =>
    have := g (n + 1) (by simpa using h)
    show ("-" ++ Nat.repr (n + 1)).toList.length ≤ 62
    rw [String.toList_append, List.length_append]
    have e : ("-" : String).toList.length = 1 := by decide
    omega
def strC (ds : List D) (h : Hst) : Res D := match ds with
  | [.int i] => if i.natAbs < 1000000000000000000000000000000000000000000000000000000000000 then .ok (.str (decI i)) h else .bad
  | _ => .bad
theorem log_small {n : Nat} (h : n < 10 ^ 60) : n.log2 < 1920 := by
  by_cases z : n = 0
  · subst z; decide
  · exact Nat.lt_trans ((Nat.log2_lt z).mpr (Nat.lt_trans h (by decide : 10 ^ 60 < 2 ^ 200))) (by decide)
theorem vc_str : Vcall K (fun xs H Q => ∃ i, xs = [.int i] ∧ i.natAbs.log2 < 1920 ∧ Q (.str (toString i)) H) strC := by
  intro W m H h ds vs σ Q R rs p
  unfold strC at p
  split at p
  · rename_i i
    obtain ⟨hc, p⟩ := p_if p
    cases rs with
    | cons r rs =>
      cases rs; cases r
      refine ⟨_, rfl, log_small hc, ?_⟩
      rw [decI_str]
      have hl := decI_len hc
      refine po_ok p R (.str ⟨by rw [sl_eq]; omega, fun c hm => ?_⟩)
      obtain ⟨d, _, rfl⟩ := List.mem_map.mp hm
      exact char_lt d
  · exact p.elim
def listC (ds : List D) (h : Hst) : Res D := match ds with
  | [.tup xs] => .ok (.ref h.length) (h ++ [.lst xs])
  | [.sl xs] => .ok (.ref h.length) (h ++ [.lst xs])
  | [.ref n] => match h[n]? with
    | some (.lst xs) => .ok (.ref h.length) (h ++ [.lst xs])
    | _ => .bad
  | _ => .bad
theorem vc_list : Vcall K (fun xs H Q => ∃ p ys, xs = [.ref p] ∧ (SqL K H p ys ∨ SqT K H p ys) ∧ ∀ l, H l = none → Q (.ref l) (upd H l (.lst ys))) listC := by
  intro W m H h ds vs σ Q R rs p
  unfold listC at p
  split at p
  · cases rs with
    | cons r rs => cases rs; cases r with
      | tup l q r => exact ⟨_, _, rfl, .inr (.of q), new_lst R r (by rw [← sl_eq]; exact l) p⟩
  · cases rs with
    | cons r rs => cases rs; cases r with
      | sl l q r => exact ⟨_, _, rfl, .inl q.seq, new_lst R r (by rw [← sl_eq]; exact l) p⟩
  · cases rs with
    | cons r rs => cases rs; cases r with
      | ref ha =>
        split at p
        · rename_i he
          obtain ⟨l, vs, q, r⟩ := R.look ha he
          exact ⟨_, _, rfl, .inl (.of q), new_lst R r (by rw [← sl_eq]; exact l) p⟩
        · exact p.elim
  · exact p.elim
def tupC (ds : List D) (h : Hst) : Res D := match ds with
  | [.tup xs] => .ok (.tup xs) h
  | [.sl xs] => .ok (.tup xs) h
  | [.ref n] => match h[n]? with
    | some (.lst xs) => .ok (.tup xs) h
    | _ => .bad
  | _ => .bad
theorem vc_tup : Vcall K (fun xs H Q => ∃ p ys, xs = [.ref p] ∧ ((SqL K H p ys ∧ ∀ l, H l = none → Q (.ref l) (upd H l (.tup ys))) ∨ (SqT K H p ys ∧ Q (.ref p) H))) tupC := by
  intro W m H h ds vs σ Q R rs p
  unfold tupC at p
  split at p
  · cases rs with
    | cons r rs => cases rs; cases r with
      | tup l q r => exact ⟨_, _, rfl, .inr ⟨.of q, po_ok p R (.tup l q r)⟩⟩
  · cases rs with
    | cons r rs => cases rs; cases r with
      | sl l q r => exact ⟨_, _, rfl, .inl ⟨q.seq, new_tup R r (by rw [← sl_eq]; exact l) p⟩⟩
  · cases rs with
    | cons r rs => cases rs; cases r with
      | ref ha =>
        split at p
        · rename_i he
          obtain ⟨l, vs, q, r⟩ := R.look ha he
          exact ⟨_, _, rfl, .inl ⟨.of q, new_tup R r (by rw [← sl_eq]; exact l) p⟩⟩
        · exact p.elim
  · exact p.elim
end

/-! ### isinstance with built-in types -/
inductive PT where
  | non | bool | int | str | list | tuple | dict
  deriving DecidableEq
def PT.nm : PT → String
  | .non => "NoneType" | .bool => "bool" | .int => "int" | .str => "str" | .list => "list" | .tuple => "tuple" | .dict => "dict"
def tyD (x : D) (h : Hst) : Option PT := match x with
  | .non => some .non | .bl _ => some .bool | .int _ => some .int | .str _ => some .str | .tup _ => some .tuple | .sl _ => some .list
  | .ref n => match h[n]? with
    | some (.lst _) => some .list
    | some (.dic _ _) => some .dict
    | _ => none
def isTy (t T : PT) : Bool := decide (t = T) || (decide (t = .bool) && decide (T = .int))
theorem kit_isTy {K : PySem.W.Frag} (t T : PT) : PySem.W.kitOne K (.type t.nm) (.type T.nm) = some (isTy t T) := by
  cases t <;> cases T <;> exact kit_ty (by decide +kernel)
theorem SqI.ty {K : PySem.W.Frag} {H : Hp} {a : Addr} {xs : List V} (h : SqI K H a xs) : TyX K H (.ref a) (.type "list") := by
  rcases h with ⟨o, h⟩ | ⟨o, its, n, h1, h2, _⟩
  · exact .base (.frz h)
  · exact .kList h1 h2
theorem tyD_ok {K : PySem.W.Frag} {m : List Addr} {H : Hp} {h : Hst} {x : D} {v : V} {t : PT} (R : RH K m H h) (r : RD K m H x v) (e : tyD x h = some t) : TyX K H v (.type t.nm) := by
  cases r with
  | non => cases e; exact .base .non
  | bl b => cases e; exact .base (.bl b)
  | int i => cases e; exact .base (.int i)
  | str b => cases e; exact .base (.str _)
  | tup l q r => cases e; exact .base (.tup q)
  | sl l q r => cases e; exact q.ty
  | ref ha =>
    unfold tyD at e
    dsimp only at e
    split at e
    · rename_i he
      cases e
      obtain ⟨_, vs, q, _⟩ := R.look ha he
      exact .base (.lst q)
    · rename_i tk kvs he
      cases e
      cases tk with
      | false => obtain ⟨ws, q, _⟩ := R.look ha he; exact .base (.dK q)
      | true => obtain ⟨ws, q, _⟩ := R.look ha he; exact .base (.dT q)
    · cases e
def vIsi (Ts : List PT) (f : Ev) : Ev := fun en h => (f en h).bind fun x h1 => match tyD x h1 with
  | some t => .ok (.bl (Ts.any fun T => isTy t T)) h1
  | none => .bad
section
variable {X : Cx} {W : WX} {e : Expr} {p pos : Pos}
theorem pa_ty {x : Str} {T : PT} {p : Pos} {es : List Expr} {t : TA} (hg : Gl X x) (hm : X.mg x = none) (hb : bootBuiltins x = some (.type T.nm) := by decide +kernel) (hr : PA X es t) (hn : x ≠ "__name__" := by decide) (hd : (x == ("__debug__" : Str)) = false := by decide)
    (hs : starEach (.Name x p :: es) X.env = (false, eval (.Name x p) X.env) :: starEach es X.env := by rfl) : PA X (.Name x p :: es) (tCons (tC (.ty T.nm)) t) :=
  pa_cons (pe_bltn (v := .ty T.nm) hg hm hb rfl hn hd) hr hs
theorem se_isi (T : PT) {x : Str} {f : Ev} {p2 : Pos} (hg : Gl X "isinstance") (hm : X.mg "isinstance" = none) (ha : SE X W e f) (hgT : Gl X x) (hmT : X.mg x = none) (hb : bootBuiltins x = some (.type T.nm) := by decide +kernel) (hn : x ≠ "__name__" := by decide) (hd : (x == ("__debug__" : Str)) = false := by decide)
    (he : starEach (e :: [.Name x p2]) X.env = (false, eval e X.env) :: starEach [.Name x p2] X.env := by rfl) (hs : starEach [.Name x p2] X.env = (false, eval (.Name x p2) X.env) :: starEach [] X.env := by rfl) (hpl : (backTo pos (starEach [.Name x p2] X.env)).any (·.1) = false := by rfl) :
    SE X W (.Call (.Name "isinstance" p) [e, .Name x p2] [] pos) (vIsi [T] f) :=
  viaE (pe_callB call_isi hg hm (by decide +kernel) (pa_cons ha (pa_ty (T := T) hgT hmT hb pa_nil hn hd hs) he) (by decide) (by decide) he hpl) fun σ H Q ⟨m, en, h, R, E, p⟩ => ⟨m, en, h, R, E, Po.imp (Po.bind (rel := RD X.K) p) fun v H1 ⟨m1, d, h1, x1, R1, r, p1⟩ => by
    split at p1
    · rename_i t et
      refine ⟨v, .ty T.nm, _, _, _, rfl, .ty _, tyD_ok R1 r et, kit_isTy t T, ?_⟩
      simpa using p_bl R1 p1
    · exact p1.elim⟩
theorem se_isi2 (T U : PT) {x y : Str} {f : Ev} {p2 p3 p4 : Pos} {k : Nat} (hg : Gl X "isinstance") (hm : X.mg "isinstance" = none) (ha : SE X W e f) (hgT : Gl X x) (hmT : X.mg x = none) (hgU : Gl X y) (hmU : X.mg y = none) (hb : bootBuiltins x = some (.type T.nm) := by decide +kernel) (hb2 : bootBuiltins y = some (.type U.nm) := by decide +kernel)
    (hn : x ≠ "__name__" := by decide) (hd : (x == ("__debug__" : Str)) = false := by decide) (hn2 : y ≠ "__name__" := by decide) (hd2 : (y == ("__debug__" : Str)) = false := by decide)
    (he : starEach (e :: [.Tuple [.Name x p2, .Name y p3] k p4]) X.env = (false, eval e X.env) :: starEach [.Tuple [.Name x p2, .Name y p3] k p4] X.env := by rfl)
    (ht : starEach [.Tuple [.Name x p2, .Name y p3] k p4] X.env = (false, eval (.Tuple [.Name x p2, .Name y p3] k p4) X.env) :: starEach [] X.env := by rfl)
    (hs : starEach [.Name x p2, .Name y p3] X.env = (false, eval (.Name x p2) X.env) :: starEach [.Name y p3] X.env := by rfl) (hs2 : starEach [.Name y p3] X.env = (false, eval (.Name y p3) X.env) :: starEach [] X.env := by rfl)
    (hpl : (backTo pos (starEach [.Tuple [.Name x p2, .Name y p3] k p4] X.env)).any (·.1) = false := by rfl) :
    SE X W (.Call (.Name "isinstance" p) [e, .Tuple [.Name x p2, .Name y p3] k p4] [] pos) (vIsi [T, U] f) :=
  viaE (pe_callB call_isiT hg hm (by decide +kernel) (pa_cons ha (pa_cons (pe_tup (pa_ty (T := T) hgT hmT hb (pa_ty (T := U) hgU hmU hb2 pa_nil hn2 hd2 hs2) hn hd hs)) pa_nil ht) he) (by decide) (by decide) he hpl) fun σ H Q ⟨m, en, h, R, E, p⟩ => ⟨m, en, h, R, E, Po.imp (Po.bind (rel := RD X.K) p) fun v H1 ⟨m1, d, h1, x1, R1, r, p1⟩ => by
    split at p1
    · rename_i t et
      refine ⟨by show 2 ≤ sizeLine; rw [sl_eq]; decide, fun q hq => ?_⟩
      have xt : Ext X.K m1 H1 m1 (upd H1 q (.tup [.ty T.nm, .ty U.nm])) := Ext.fresh hq
      refine ⟨v, q, _, _, _, _, rfl, upd_same, .cons (.ty _) (.cons (.ty _) .nil), tyD_ok (R1.laid hq) (r.mono xt) et, kitAny_cons (b := isTy t T) (r := isTy t T || isTy t U) (kit_isTy t T) (fun z => kitAny_cons (b := isTy t U) (kit_isTy t U) (fun z2 => ?_) fun z2 => ?_) fun z => ?_, ?_⟩
      · rw [z, z2]; rfl
      · rw [z, z2]; rfl
      · rw [z]; rfl
      · have := p_bl (R1.laid hq) (Po.mono xt p1)
        simpa using this
    · exact p1.elim⟩
end
end Mi

namespace Mi
open PySem PySem.Spec PyProof.Rows L2

/-! ### methods of built-in types -/
def Vmth (K : PySem.W.Frag) (r : V → List V → Hp → VK → Prop) (g : D → List D → Hst → Res D) : Prop := ∀ (W : WX) (m : List Addr) (H : Hp) (h : Hst) (d : D) (v : V) (ds : List D) (vs : List V) (σ : L2.St) (Q : VK), RH K m H h → RD K m H d v → RDs K m H ds vs → Po K W (RD K) m H σ (g d ds h) Q → r v vs H Q
def vM (T : PT) (g : D → List D → Hst → Res D) (fo : Ev) (fa : Evs) : Ev := fun en h => (fo en h).bind fun x h1 => if tyD x h1 = some T then (fa en h1).bind fun ds h2 => g x ds h2 else .bad
section
variable {K : PySem.W.Frag} {m : List Addr} {H : Hp} {h : Hst} {W : WX}
theorem tyV_list {x : D} {v : V} (R : RH K m H h) (r : RD K m H x v) (e : tyD x h = some .list) : tyV K "list" v H := by
  cases r with
  | sl l q r => exact .inl ⟨rfl, _, q.seq⟩
  | ref ha =>
    unfold tyD at e
    dsimp only at e
    split at e
    · rename_i he
      obtain ⟨_, vs, q, _⟩ := R.look ha he
      exact .inl ⟨rfl, vs, .of q⟩
    · cases e
    · cases e
  | _ => cases e
theorem tyV_str {x : D} {v : V} (R : RH K m H h) (r : RD K m H x v) (e : tyD x h = some .str) : tyV K "str" v H := by
  cases r with
  | str b => rfl
  | ref ha =>
    unfold tyD at e
    dsimp only at e
    split at e <;> cases e
  | _ => cases e
theorem wr_lst {n : Nat} {a : Addr} {xs : List D} {vs : List V} {σ : L2.St} {Q : VK} {d : D} {v : V} (R : RH K m H h) (ha : m[n]? = some a) (rs : RDs K m H xs vs) (hl : xs.length ≤ 16777216) (r : RD K m H d v)
    (p : Po K W (RD K) m H σ (.ok d (h.set n (.lst xs))) Q) : Q v (upd H a (.lst vs)) := by
  have hn : n < h.length := by rw [← R.len]; exact (List.getElem?_eq_some_iff.mp ha).1
  have mu : Mut (H a) := by obtain ⟨u, q, z⟩ := (R.look ha (List.getElem?_eq_getElem hn)).here; rw [q]; exact z
  have x : Ext K m H m (upd H a (.lst vs)) := Ext.write ha mu
  exact p m _ _ x (R.write ha ⟨by rw [sl_eq]; exact hl, vs, upd_same, rs.mono x⟩) (r.mono x)
def appendM (x : D) (ds : List D) (h : Hst) : Res D := match x, ds with
  | .ref n, [d] => match h[n]? with
    | some (.lst xs) => if xs.length < 16777216 then .ok .non (h.set n (.lst (xs ++ [d]))) else .bad
    | _ => .bad
  | _, _ => .bad
theorem vm_append : Vmth K rAppend appendM := by
  intro W m H h d v ds vs σ Q R r rs p
  unfold appendM at p
  split at p
  · cases r with
    | ref ha =>
      cases rs with
      | cons q rs =>
        cases rs
        split at p
        · rename_i he
          obtain ⟨hl, p⟩ := p_if p
          obtain ⟨_, ws, e, r⟩ := R.look ha he
          exact ⟨_, _, _, rfl, rfl, e, by rw [← r.length, sl_eq]; exact hl, wr_lst R ha (r.append (.one q)) (by simp; omega) .non p⟩
        · exact p.elim
  · exact p.elim
def extendM (x : D) (ds : List D) (h : Hst) : Res D := match x, ds with
  | .ref n, [.ref k] => match h[n]?, h[k]? with
    | some (.lst xs), some (.lst ys) => if xs.length + ys.length ≤ 16777216 then .ok .non (h.set n (.lst (xs ++ ys))) else .bad
    | _, _ => .bad
  | _, _ => .bad
theorem vm_extend : Vmth K rExtend extendM := by
  intro W m H h d v ds vs σ Q R r rs p
  unfold extendM at p
  split at p
  · cases r with
    | ref ha =>
      cases rs with
      | cons q rs =>
        cases rs
        cases q with
        | ref hb =>
          split at p
          · rename_i e1 e2
            obtain ⟨hl, p⟩ := p_if p
            obtain ⟨_, ws, e, r⟩ := R.look ha e1
            obtain ⟨_, us, e', r'⟩ := R.look hb e2
            exact ⟨_, _, _, _, rfl, rfl, e, e', by rw [← r.length, ← r'.length, sl_eq]; exact hl, wr_lst R ha (r.append r') (by simp; omega) .non p⟩
          · exact p.elim
  · exact p.elim
def popM (x : D) (ds : List D) (h : Hst) : Res D := match x, ds with
  | .ref n, [] => match h[n]? with
    | some (.lst xs) => match xs[xs.length - 1]? with
      | some d => .ok d (h.set n (.lst xs.dropLast))
      | none => .bad
    | _ => .bad
  | .ref n, [.int i] => match h[n]? with
    | some (.lst xs) => match ixN xs.length i with
      | some k => match xs[k]? with
        | some d => .ok d (h.set n (.lst (xs.eraseIdx k)))
        | none => .bad
      | none => .bad
    | _ => .bad
  | _, _ => .bad
theorem vm_pop : Vmth K (fun x vs H Q => rPop x vs H Q ∨ rPopAt x vs H Q) popM := by
  intro W m H h d v ds vs σ Q R r rs p
  unfold popM at p
  split at p
  · cases r with
    | ref ha =>
      cases rs
      split at p
      · rename_i he
        split at p
        · rename_i d hd
          obtain ⟨l, ws, e, r⟩ := R.look ha he
          obtain ⟨w, hw, rw'⟩ := r.get hd
          exact .inl ⟨_, _, w, rfl, rfl, e, by rw [← r.length]; exact hw, wr_lst R ha r.dropLast (by rw [← sl_eq]; exact Nat.le_trans (by simp) l) rw' p⟩
        · exact p.elim
      · exact p.elim
  · cases r with
    | ref ha =>
      cases rs with
      | cons q rs =>
        cases rs
        cases q
        split at p
        · rename_i he
          split at p
          · rename_i k hk
            split at p
            · rename_i d hd
              obtain ⟨l, ws, e, r⟩ := R.look ha he
              obtain ⟨w, hw, rw'⟩ := r.get hd
              obtain ⟨h1, h2, h3, h4⟩ := ixN_seq hk
              have hs := sl_eq
              exact .inr ⟨_, _, _, k, w, rfl, rfl, e, by omega, by omega, by rw [← r.length]; exact h1, hw, wr_lst R ha (r.eraseIdx k) (Nat.le_trans (len_erase _ _) (by rw [← sl_eq]; exact l)) rw' p⟩
            · exact p.elim
          · exact p.elim
        · exact p.elim
  · exact p.elim
/-- the first place of an equal item -/
def firstIx (x : D) : List D → Option Nat
  | [] => none
  | y :: ys => if eqF y x = true then some 0 else match firstIx x ys with
    | some j => some (j + 1)
    | none => none
def indexM (x : D) (ds : List D) (h : Hst) : Res D := match ds with
  | [d] => match (match x with
      | .sl xs => some xs
      | .ref n => match h[n]? with
        | some (.lst xs) => some xs
        | _ => none
      | _ => none) with
    | some xs => if flatD d = true ∧ xs.all flatD = true then match firstIx d xs with
        | some j => .ok (.int j) h
        | none => .bad
      else .bad
    | none => .bad
  | _ => .bad
theorem firstIx_ok {d : D} {v : V} (r : RD K m H d v) (f : flatD d = true) : ∀ {xs : List D} {vs : List V} {j : Nat}, RDs K m H xs vs → xs.all flatD = true → firstIx d xs = some j → ∃ z, vs[j]? = some z ∧ eqV z v = true ∧ ∀ (i : Nat) (z' : V), i < j → vs[i]? = some z' → eqV z' v = false
  | _, _, _, .nil, _, e => by cases e
  | _, _, j, .cons q rs, g, e => by
    rw [List.all_cons, Bool.and_eq_true] at g
    have e0 := eqF_rel q r g.1 f
    unfold firstIx at e
    split at e
    · rename_i he
      cases e
      exact ⟨_, rfl, by rw [e0]; exact he, fun i z' hi => absurd hi (Nat.not_lt_zero _)⟩
    · rename_i he
      split at e
      · rename_i j' hj
        cases e
        obtain ⟨z, h1, h2, h3⟩ := firstIx_ok r f rs g.2 hj
        refine ⟨z, by simpa using h1, h2, fun i z' hi hz => ?_⟩
        cases i with
        | zero =>
          simp at hz
          subst hz
          rw [e0]
          simpa using he
        | succ i => exact h3 i z' (by omega) (by simpa using hz)
      · cases e
theorem vm_index : Vmth K (rIndex K) indexM := by
  intro W m H h d v ds vs σ Q R r rs p
  have go : ∀ {xs : List D} {ws : List V} {a : Addr} {y : D} {u : V}, v = .ref a → SqL K H a ws → RDs K m H xs ws → RD K m H y u → vs = [u] →
      Po K W (RD K) m H σ (if flatD y = true ∧ xs.all flatD = true then match firstIx y xs with
        | some j => .ok (.int j) h
        | none => .bad
      else .bad) Q → rIndex K v vs H Q := by
    intro xs ws a y u ev hs rr ry evs p
    obtain ⟨hf, p⟩ := p_if p
    split at p
    · rename_i j hj
      obtain ⟨z, h1, h2, h3⟩ := firstIx_ok ry hf.1 rr hf.2 hj
      exact ⟨a, ws, u, j, z, ev, evs, hs, flat_rel ry hf.1, flats_rel rr hf.2, h1, h2, h3, p_int R p⟩
    · exact p.elim
  unfold indexM at p
  split at p
  · cases rs with
    | cons q rs =>
      cases rs
      cases r with
      | sl l s rr => exact go rfl s.seq rr q rfl p
      | ref ha =>
        dsimp only at p
        split at p
        · rename_i xs he
          split at he
          · rename_i ys hy
            cases he
            obtain ⟨_, ws, e, rr⟩ := R.look ha hy
            exact go rfl (.of e) rr q rfl p
          · cases he
        · exact p.elim
      | _ => exact p.elim
  · exact p.elim
end
section
variable {X : Cx} {W : WX} {o e : Expr} {es : List Expr} {name : Str} {apos cpos : Pos} {id : String} {T : PT} {r : V → List V → Hp → VK → Prop} {g : D → List D → Hst → Res D} {fo : Ev} {fa : Evs}
theorem se_bm (hT : ∀ {K : PySem.W.Frag} {m : List Addr} {H : Hp} {h : Hst} {x : D} {v : V}, RH K m H h → RD K m H x v → tyD x h = some T → tyV K T.nm v H) (pa : PlainAttrs T.nm) (slot : Slot T.nm name id) (hty : typeOf (.builtin id) = pure (.type "method_descriptor")) (hm : MtR X id r) (hv : Vmth X.K r g) (ho : SE X W o fo) (ha : SA X W (e :: es) fa)
    (hbase : attributeBase o name X.env (eval o X.env) = eval o X.env := by rfl)
    (hfew : ((backTo cpos (starEach (e :: es) X.env)).all (fun x => !x.1) && (backToKw cpos (keywordEach [] X.env)).all (fun x => x.1.isSome)
      && decide ((e :: es).length + ([] : List Keyword).length + (if ([] : List Keyword).isEmpty then 0 else 1) < 30)) = true := by rfl)
    (hline : (apos.endLine == cpos.line) = true := by rfl) (hs : starEach (e :: es) X.env = (false, eval e X.env) :: starEach es X.env := by rfl) (hplain : (backTo cpos (starEach es X.env)).any (·.1) = false := by rfl) :
    SE X W (.Call (.Attribute o name apos) (e :: es) [] cpos) (vM T g fo fa) :=
  viaE (pe_bm pa slot hty hm ho ha hbase hfew hline hs hplain) fun σ H Q ⟨m, en, h, R, E, p⟩ => ⟨m, en, h, R, E, Po.imp (Po.bind (rel := RD X.K) p) fun x H1 ⟨m1, d, h1, x1, R1, rd, p1⟩ => by
    obtain ⟨ht, p1⟩ := p_if p1
    exact ⟨hT R1 rd ht, m1, en, h1, R1, E.mono x1, Po.imp (Po.bind (rel := RDs X.K) p1) fun xs H2 ⟨m2, ds, h2, x2, R2, rs, p2⟩ => hv W m2 H2 h2 d x ds xs σ Q R2 (rd.mono x2) rs p2⟩⟩
theorem se_bm0 (hT : ∀ {K : PySem.W.Frag} {m : List Addr} {H : Hp} {h : Hst} {x : D} {v : V}, RH K m H h → RD K m H x v → tyD x h = some T → tyV K T.nm v H) (pa : PlainAttrs T.nm) (slot : Slot T.nm name id) (hty : typeOf (.builtin id) = pure (.type "method_descriptor")) (hm : MtR X id r) (hv : Vmth X.K r g) (ho : SE X W o fo)
    (hbase : attributeBase o name X.env (eval o X.env) = eval o X.env := by rfl) (hline : (apos.endLine == cpos.line) = true := by rfl) :
    SE X W (.Call (.Attribute o name apos) [] [] cpos) (vM T g fo aNil) :=
  viaE (pe_bm0 pa slot hty hm ho hbase hline) fun σ H Q ⟨m, en, h, R, E, p⟩ => ⟨m, en, h, R, E, Po.imp (Po.bind (rel := RD X.K) p) fun x H1 ⟨m1, d, h1, x1, R1, rd, p1⟩ => by
    obtain ⟨ht, p1⟩ := p_if p1
    exact ⟨hT R1 rd ht, hv W m1 H1 h1 d x [] [] σ Q R1 rd .nil p1⟩⟩
theorem se_append (ho : SE X W o fo) (ha : SA X W (e :: es) fa) (hbase : attributeBase o "append" X.env (eval o X.env) = eval o X.env := by rfl)
    (hfew : ((backTo cpos (starEach (e :: es) X.env)).all (fun x => !x.1) && (backToKw cpos (keywordEach [] X.env)).all (fun x => x.1.isSome)
      && decide ((e :: es).length + ([] : List Keyword).length + (if ([] : List Keyword).isEmpty then 0 else 1) < 30)) = true := by rfl)
    (hline : (apos.endLine == cpos.line) = true := by rfl) (hs : starEach (e :: es) X.env = (false, eval e X.env) :: starEach es X.env := by rfl) (hplain : (backTo cpos (starEach es X.env)).any (·.1) = false := by rfl) :
    SE X W (.Call (.Attribute o "append" apos) (e :: es) [] cpos) (vM .list appendM fo fa) :=
  se_bm (T := .list) tyV_list PySem.F.plainAttrs_list PySem.F.slot_list_append PySem.F.type_list_append mt_append vm_append ho ha hbase hfew hline hs hplain
theorem se_extend (ho : SE X W o fo) (ha : SA X W (e :: es) fa) (hbase : attributeBase o "extend" X.env (eval o X.env) = eval o X.env := by rfl)
    (hfew : ((backTo cpos (starEach (e :: es) X.env)).all (fun x => !x.1) && (backToKw cpos (keywordEach [] X.env)).all (fun x => x.1.isSome)
      && decide ((e :: es).length + ([] : List Keyword).length + (if ([] : List Keyword).isEmpty then 0 else 1) < 30)) = true := by rfl)
    (hline : (apos.endLine == cpos.line) = true := by rfl) (hs : starEach (e :: es) X.env = (false, eval e X.env) :: starEach es X.env := by rfl) (hplain : (backTo cpos (starEach es X.env)).any (·.1) = false := by rfl) :
    SE X W (.Call (.Attribute o "extend" apos) (e :: es) [] cpos) (vM .list extendM fo fa) :=
  se_bm (T := .list) tyV_list PySem.F.plainAttrs_list PySem.F.slot_list_extend PySem.F.type_list_extend mt_extend vm_extend ho ha hbase hfew hline hs hplain
theorem se_index (ho : SE X W o fo) (ha : SA X W (e :: es) fa) (hbase : attributeBase o "index" X.env (eval o X.env) = eval o X.env := by rfl)
    (hfew : ((backTo cpos (starEach (e :: es) X.env)).all (fun x => !x.1) && (backToKw cpos (keywordEach [] X.env)).all (fun x => x.1.isSome)
      && decide ((e :: es).length + ([] : List Keyword).length + (if ([] : List Keyword).isEmpty then 0 else 1) < 30)) = true := by rfl)
    (hline : (apos.endLine == cpos.line) = true := by rfl) (hs : starEach (e :: es) X.env = (false, eval e X.env) :: starEach es X.env := by rfl) (hplain : (backTo cpos (starEach es X.env)).any (·.1) = false := by rfl) :
    SE X W (.Call (.Attribute o "index" apos) (e :: es) [] cpos) (vM .list indexM fo fa) :=
  se_bm (T := .list) tyV_list PySem.F.plainAttrs_list PySem.F.slot_list_index PySem.F.type_list_index mt_index vm_index ho ha hbase hfew hline hs hplain
theorem se_popAt (ho : SE X W o fo) (ha : SA X W (e :: es) fa) (hbase : attributeBase o "pop" X.env (eval o X.env) = eval o X.env := by rfl)
    (hfew : ((backTo cpos (starEach (e :: es) X.env)).all (fun x => !x.1) && (backToKw cpos (keywordEach [] X.env)).all (fun x => x.1.isSome)
      && decide ((e :: es).length + ([] : List Keyword).length + (if ([] : List Keyword).isEmpty then 0 else 1) < 30)) = true := by rfl)
    (hline : (apos.endLine == cpos.line) = true := by rfl) (hs : starEach (e :: es) X.env = (false, eval e X.env) :: starEach es X.env := by rfl) (hplain : (backTo cpos (starEach es X.env)).any (·.1) = false := by rfl) :
    SE X W (.Call (.Attribute o "pop" apos) (e :: es) [] cpos) (vM .list popM fo fa) :=
  se_bm (T := .list) tyV_list PySem.F.plainAttrs_list PySem.F.slot_list_pop PySem.F.type_list_pop (MtR.or mt_pop mt_popAt) vm_pop ho ha hbase hfew hline hs hplain
theorem se_pop (ho : SE X W o fo) (hbase : attributeBase o "pop" X.env (eval o X.env) = eval o X.env := by rfl) (hline : (apos.endLine == cpos.line) = true := by rfl) :
    SE X W (.Call (.Attribute o "pop" apos) [] [] cpos) (vM .list popM fo aNil) :=
  se_bm0 (T := .list) tyV_list PySem.F.plainAttrs_list PySem.F.slot_list_pop PySem.F.type_list_pop (MtR.or mt_pop mt_popAt) vm_pop ho hbase hline
end

/-! ### statements -/
def bindS {α : Type} (r : Res α) (en : En) (k : α → Hst → SR) : SR := match r with
  | .ok a h => k a h
  | .err x h => .err x en h
  | .bad => .bad
theorem PoS.bind {α β : Type} {K : PySem.W.Frag} {W : WX} {rel : List Addr → Hp → α → β → Prop} {m : List Addr} {H : Hp} {σ : L2.St} {en : En} {r : Res α} {k : α → Hst → SR} {D : Ends} (E : REn K m H en σ) (p : PoS K W m H (bindS r en k) D) :
    Po K W rel m H σ r (fun b H1 => ∃ m1 a h1, Ext K m H m1 H1 ∧ RH K m1 H1 h1 ∧ rel m1 H1 a b ∧ REn K m1 H1 en σ ∧ PoS K W m1 H1 (k a h1) D) := by
  cases r with
  | ok a h => exact fun m' H' b x R q => ⟨m', a, h, x, R, q, E.mono x, PoS.mono x p⟩
  | err x h => exact fun m' H' c d y R q => p m' H' σ c d y R (E.mono y) q
  | bad => exact p
section
variable {K : PySem.W.Frag} {W : WX} {m : List Addr} {H : Hp} {h : Hst} {D : Ends} {en : En} {σ : L2.St}
theorem ps_nx (R : RH K m H h) (E : REn K m H en σ) (p : PoS K W m H (.nx en h) D) : D.nx σ H := p m H σ .refl R E
end
def sNil : Sm := fun en h => .nx en h
/-- one statement, then the rest -/
def thenS (r : SR) (k : Sm) : SR := match r with
  | .nx en h => k en h
  | r => r
def sSeq (f g : Sm) : Sm := fun en h => thenS (f en h) g
def sExpr (f : Ev) : Sm := fun en h => bindS (f en h) en fun _ h1 => .nx en h1
def sSet (i : Nat) (f : Ev) : Sm := fun en h => bindS (f en h) en fun d h1 => .nx (en.set i (some d)) h1
def sRet (f : Ev) : Sm := fun en h => bindS (f en h) en fun d h1 => .rt d h1
def sRetN : Sm := fun _ h => .rt .non h
def sIf (t : EvT) (f g : Sm) : Sm := fun en h => bindS (t en h) en fun b h1 => match b with
  | true => f en h1
  | false => g en h1
def sBrk : Sm := fun en h => .bk en h
def sCt : Sm := fun en h => .ct en h
section
variable {X : Cx} {W : WX} {e a c : Expr} {st : Stmt} {sts rest : List Stmt} {pos : Pos} {f g : Sm} {fe : Ev} {t : EvT}
theorem ss_nil : SSs X W [] sNil := viaSs pss_nil fun D σ H ⟨m, en, h, R, E, p⟩ => ps_nx R E p
theorem ss_cons (h1 : SS X W st f) (h2 : SSs X W rest g) : SSs X W (st :: rest) (sSeq f g) :=
  viaSs (pss_cons h1 h2) fun D σ H ⟨m, en, h, R, E, p⟩ => ⟨m, en, h, R, E, by
    have q : PoS X.K W m H (thenS (f en h) g) D := p
    cases ef : f en h with
    | nx en1 h1 =>
      rw [ef] at q
      exact fun m' H' σ' x R' E' => ⟨m', en1, h1, R', E', PoS.mono x q⟩
    | rt v h1 => rw [ef] at q; exact q
    | bk en1 h1 => rw [ef] at q; exact q
    | ct en1 h1 => rw [ef] at q; exact q
    | err x en1 h1 => rw [ef] at q; exact q
    | bad => rw [ef] at q; exact q⟩
theorem ss_one (h1 : SS X W st f) : SSs X W [st] f := pss_one h1
theorem ss_pass : SS X W (.Pass pos) sNil := viaS ps_pass fun D σ H ⟨m, en, h, R, E, p⟩ => ps_nx R E p
theorem ss_brk : SS X W (.Break pos) sBrk := viaS ps_break fun D σ H ⟨m, en, h, R, E, p⟩ => p m H σ .refl R E
theorem ss_ct : SS X W (.Continue pos) sCt := viaS ps_continue fun D σ H ⟨m, en, h, R, E, p⟩ => p m H σ .refl R E
theorem ss_expr (he : SE X W e fe) (hs : swapsWith e none pos.line X.env = pure false := by rfl) : SS X W (.Expr e pos) (sExpr fe) :=
  viaS (ps_expr he hs) fun D σ H ⟨m, en, h, R, E, p⟩ => ⟨m, en, h, R, E, Po.imp (PoS.bind (rel := RD X.K) E p) fun v H1 ⟨m1, d, h1, x1, R1, r, E1, p1⟩ => ps_nx R1 E1 p1⟩
theorem ss_set {i : Nat} {x : Str} {pos' : Pos} (hN : X.N.Nodup) (he : SE X W e fe) (hi : X.N[i]? = some x := by rfl) (hx : Loc X.env.scope x := by first | exact Or.inl rfl | exact Or.inr rfl) (hs : swapsWith e (some (.Name x pos')) pos.line X.env = pure false := by rfl)
    (hf : X.fn x = true ∨ X.env.scope.names.lookup x = some .local := by first | exact .inl rfl | exact .inr rfl) : SS X W (.Assign [.Name x pos'] e pos) (sSet i fe) :=
  viaS (ps_set (i := i) hN hi hx he hs hf) fun D σ H ⟨m, en, h, R, E, p⟩ => ⟨m, en, h, R, E, Po.imp (PoS.bind (rel := RD X.K) E p) fun v H1 ⟨m1, d, h1, x1, R1, r, E1, p1⟩ => ps_nx R1 (E1.set r i) p1⟩
theorem ss_ret (he : SE X W e fe) : SS X W (.Return (some e) pos) (sRet fe) :=
  viaS (ps_ret he) fun D σ H ⟨m, en, h, R, E, p⟩ => ⟨m, en, h, R, E, Po.imp (PoS.bind (rel := RD X.K) E p) fun v H1 ⟨m1, d, h1, x1, R1, r, E1, p1⟩ => p1 m1 H1 v .refl R1 r⟩
theorem ss_retN : SS X W (.Return none pos) sRetN := viaS ps_retN fun D σ H ⟨m, en, h, R, E, p⟩ => p m H .non .refl R .non
theorem ss_if (hc : ST X W c t) (ha : SSs X W sts f) (hb : SSs X W rest g) : SS X W (.If c sts rest pos) (sIf t f g) :=
  viaS (ps_if hc ha hb) fun D σ H ⟨m, en, h, R, E, p⟩ => ⟨m, en, h, R, E, Po.imp (PoS.bind (rel := fun _ _ a b => a = b) E p) fun v H1 ⟨m1, d, h1, x1, R1, r, E1, p1⟩ => by
    subst r
    cases d with
    | true => exact iteT ⟨m1, en, h1, R1, E1, p1⟩
    | false => exact iteF ⟨m1, en, h1, R1, E1, p1⟩⟩
end

/-! ### targets -/
abbrev Tg := D → En → Option En
/-- only the slots sl are stored -/
def Only (sl : List Nat) (σ σ' : L2.St) : Prop := σ'.length = σ.length ∧ ∀ i : Nat, i ∉ sl → σ'[i]? = σ[i]?
def RdG (K : PySem.W.Frag) (sl : List Nat) (g : Tg) : TG := fun v σ H Q => ∃ m en d h, RH K m H h ∧ REn K m H en σ ∧ RD K m H d v ∧ ∃ en', g d en = some en' ∧ ∀ σ', REn K m H en' σ' → Only sl σ σ' → Q σ' H
def RdGs (K : PySem.W.Frag) (sl : List Nat) (g : List D → En → Option En) : TGs := fun vs σ H Q => ∃ m en ds h, RH K m H h ∧ REn K m H en σ ∧ RDs K m H ds vs ∧ ∃ en', g ds en = some en' ∧ ∀ σ', REn K m H en' σ' → Only sl σ σ' → Q σ' H
abbrev SG (X : Cx) (tg : Expr) (sl : List Nat) (g : Tg) : Prop := PG X tg (RdG X.K sl g)
abbrev SGs (X : Cx) (tg : List Expr) (sl : List Nat) (g : List D → En → Option En) : Prop := PGs X tg (RdGs X.K sl g)
def gNm (i : Nat) : Tg := fun d en => some (en.set i (some d))
def gsNil : List D → En → Option En := fun ds en => match ds with
  | [] => some en
  | _ => none
def gsCons (g : Tg) (r : List D → En → Option En) : List D → En → Option En := fun ds en => match ds with
  | d :: ds => match g d en with
    | some en1 => r ds en1
    | none => none
  | [] => none
def gTp (n : Nat) (g : List D → En → Option En) : Tg := fun d en => match d with
  | .tup ds => if ds.length = n then g ds en else none
  | _ => none
section
variable {X : Cx} {e : Expr} {es : List Expr} {pos : Pos} {g : Tg} {gs : List D → En → Option En} {sl sl' : List Nat}
theorem sg_nm {i : Nat} {x : Str} (hN : X.N.Nodup) (hi : X.N[i]? = some x := by rfl) (hx : Loc X.env.scope x := by first | exact Or.inl rfl | exact Or.inr rfl) (hf : X.fn x = true ∨ X.env.scope.names.lookup x = some .local := by first | exact .inl rfl | exact .inr rfl) : SG X (.Name x pos) [i] (gNm i) :=
  ⟨fun pins s σ H v u Q I r ⟨m, en, d, h, R, E, rd, en', e, q⟩ => (pg_name (i := i) hN hi hx hf).run pins s σ H v u Q I r (q _ (by cases e; exact E.set rd i) ⟨by simp, fun j hj => List.getElem?_set_ne (fun z => hj (by simp [z]))⟩)⟩
theorem sgs_nil : SGs X [] [] gsNil := ⟨fun pins s σ H vs us Q I r ⟨m, en, ds, h, R, E, rd, en', e, q⟩ => pgs_nil.run pins s σ H vs us Q I r (by
  cases rd with
  | nil => cases e; exact ⟨rfl, q _ E ⟨rfl, fun _ _ => rfl⟩⟩
  | cons => cases e)⟩
theorem sgs_cons (h1 : SG X e sl g) (h2 : SGs X es sl' gs) (hs : (assignEach (e :: es) X.env).map (·.2) = assign e X.env :: (assignEach es X.env).map (·.2) := by rfl) : SGs X (e :: es) (sl ++ sl') (gsCons g gs) :=
  ⟨fun pins s σ H vs us Q I r ⟨m, en, ds, h, R, E, rd, en', e, q⟩ => (pgs_cons h1 h2 hs).run pins s σ H vs us Q I r (by
    cases rd with
    | nil => cases e
    | cons r1 rs =>
      unfold gsCons at e
      dsimp only at e
      split at e
      · rename_i en1 e1
        exact ⟨_, _, rfl, m, en, _, h, R, E, r1, en1, e1, fun σ1 E1 o1 => ⟨m, en1, _, h, R, E1, rs, en', e, fun σ2 E2 o2 => q σ2 E2 ⟨o2.1.trans o1.1, fun i hi => by
          rw [List.mem_append] at hi
          rw [o2.2 i (fun z => hi (.inr z)), o1.2 i (fun z => hi (.inl z))]⟩⟩⟩
      · cases e)⟩
theorem sg_tp {k n : Nat} (hc : X.calm = true) (h : SGs X es sl gs) (hn : (assignEach es X.env).length = n := by rfl) (hst : (assignEach es X.env).findIdx? (·.1) = none := by rfl) : SG X (.Tuple es k pos) sl (gTp n gs) :=
  ⟨fun pins s σ H v u Q I r ⟨m, en, d, hh, R, E, rd, en', e, q⟩ => (pg_tup hc h hn hst).run pins s σ H v u Q I r (by
    unfold gTp at e
    split at e
    · split at e
      · rename_i hl
        cases rd with
        | tup l qq rs => exact ⟨_, _, rfl, .of qq, by rw [← rs.length]; exact hl, m, en, _, hh, R, E, rs, en', e, q⟩
      · cases e
    · cases e)⟩
/-- target = value -/
def sAsg (g : Tg) (f : Ev) : Sm := fun en h => bindS (f en h) en fun d h1 => match g d en with
  | some en' => .nx en' h1
  | none => .bad
theorem ss_asg {W : WX} {tg : Expr} {fe : Ev} (he : SE X W e fe) (hg : SG X tg sl g) (hs : swapsWithSole [tg] e pos.line X.env = pure false := by rfl) (hw : swappedStores [tg] e X.env = pure none := by rfl)
    (h1 : (assignEach [tg] X.env).map (·.2) = [assign tg X.env] := by rfl) : SS X W (.Assign [tg] e pos) (sAsg g fe) :=
  viaS (ps_asg he hg hs hw h1) fun D σ H ⟨m, en, h, R, E, p⟩ => ⟨m, en, h, R, E, Po.imp (PoS.bind (rel := RD X.K) E p) fun v H1 ⟨m1, d, h1, x1, R1, r, E1, p1⟩ => by
    split at p1
    · rename_i en' e
      exact ⟨m1, en, d, h1, R1, E1, r, en', e, fun σ' E' _ => ps_nx R1 E' p1⟩
    · exact p1.elim⟩
end
end Mi

namespace Mi
open PySem PySem.Spec PyProof.Rows L2

/-! ### while -/
def whileL (t : EvT) (b : Sm) : Nat → Sm
  | 0, _, _ => .bad
  | g + 1, en, h => bindS (t en h) en fun k h1 => match k with
    | false => .nx en h1
    | true => match b en h1 with
      | .nx en2 h2 => whileL t b g en2 h2
      | .ct en2 h2 => whileL t b g en2 h2
      | .bk en2 h2 => .nx en2 h2
      | r => r
section
variable {X : Cx} {W : WX} {c : Expr} {body : List Stmt} {pos : Pos} {t : EvT} {b : Sm}
theorem ss_while (g : Nat) (hp : PassesOwn (model X.prog X.w) X.A X.env X.xe) (hc : ST X W c t) (hb : SSs X W body b) : SS X W (.While c body [] pos) (whileL t b g) :=
  viaS (ps_while hp hc hb) fun D σ H ⟨m, en, h, R, E, p⟩ => by
    refine ⟨fun k σ H => ∃ m en h, RH X.K m H h ∧ REn X.K m H en σ ∧ PoS X.K W m H (whileL t b k en h) D, ⟨g, m, en, h, R, E, p⟩, ?_⟩
    rintro k σ1 H1 ⟨m1, en1, h1, R1, E1, p1⟩
    cases k with
    | zero => exact p1.elim
    | succ k =>
      refine ⟨m1, en1, h1, R1, E1, Po.imp (PoS.bind (rel := fun _ _ a b => a = b) E1 p1) fun z H2 ⟨m2, d, h2, x2, R2, e2, E2, p2⟩ => ?_⟩
      subst e2
      cases d with
      | false => exact iteF (ps_nx R2 E2 p2)
      | true =>
        refine iteT ⟨fun σ' H' => ∃ m en h, RH X.K m H' h ∧ REn X.K m H' en σ' ∧ PoS X.K W m H' (whileL t b k en h) D, fun σ' H' q => ⟨k, Nat.lt_succ_self k, q⟩, m2, en1, h2, R2, E2, ?_⟩
        dsimp only at p2
        cases eb : b en1 h2 with
        | nx en3 h3 => rw [eb] at p2; exact fun m' H' σ' x R' E' => ⟨m', en3, h3, R', E', PoS.mono x p2⟩
        | ct en3 h3 => rw [eb] at p2; exact fun m' H' σ' x R' E' => ⟨m', en3, h3, R', E', PoS.mono x p2⟩
        | bk en3 h3 => rw [eb] at p2; exact p2
        | rt v h3 => rw [eb] at p2; exact p2
        | err x en3 h3 => rw [eb] at p2; exact p2
        | bad => rw [eb] at p2; exact p2
end

/-! ### what is walked -/
/-- J goes over the items as long as the list that is walked stands -/
def Wk (K : PySem.W.Frag) (J : It) (m : List Addr) (H : Hp) (items : List D) (chk : Chk) : Prop := ∀ m' H' h', Ext K m H m' H' → RH K m' H' h' → chk.ok h' →
  (∀ i x, items[i]? = some x → J.go i H' ∧ ∀ v H'', J.yld i H' v H'' → ∃ m'', Ext K m' H' m'' H'' ∧ RH K m'' H'' h' ∧ RD K m'' H'' x v) ∧ J.stop items.length H'
def PoI (K : PySem.W.Frag) (W : WX) (m : List Addr) (H : Hp) (σ : L2.St) (r : Res (List D × Chk)) (R : It → Hp → Prop) : Prop := match r with
  | .ok a h => ∀ m' H' J, Ext K m H m' H' → RH K m' H' h → Wk K J m' H' a.1 a.2 → R J H'
  | .err x h => ∀ m' H' cls d, Ext K m H m' H' → RH K m' H' h → RX K m' H' x cls d → W cls d σ H'
  | .bad => False
def RdI (K : PySem.W.Frag) (W : WX) (f : EvI) : TI := fun σ H R => ∃ m en h, RH K m H h ∧ REn K m H en σ ∧ PoI K W m H σ (f en h) R
abbrev SI (X : Cx) (W : WX) (tg iter : Expr) (f : EvI) : Prop := PI X tg iter (RdI X.K W f)
theorem viaI {X : Cx} {tg iter : Expr} {t t' : TI} (h : PI X tg iter t) (q : ∀ σ H R, t' σ H R → t σ H R) : PI X tg iter t' := ⟨fun p s σ H R I w => h.run p s σ H R I (q _ _ _ w)⟩
theorem PoI.bind {α β : Type} {K : PySem.W.Frag} {W : WX} {rel : List Addr → Hp → α → β → Prop} {m : List Addr} {H : Hp} {σ : L2.St} {r : Res α} {g : α → Hst → Res (List D × Chk)} {R : It → Hp → Prop} (p : PoI K W m H σ (r.bind g) R) :
    Po K W rel m H σ r (fun b H1 => ∃ m1 a h1, Ext K m H m1 H1 ∧ RH K m1 H1 h1 ∧ rel m1 H1 a b ∧ PoI K W m1 H1 σ (g a h1) R) := by
  cases r with
  | ok a h1 =>
    refine fun m' H' b x R' q => ⟨m', a, h1, x, R', q, ?_⟩
    have p' : PoI K W m H σ (g a h1) R := p
    cases e : g a h1 with
    | ok a2 h2 => rw [e] at p'; exact fun m2 H2 J y R2 w => p' m2 H2 J (x.trans y) R2 w
    | err x2 h2 => rw [e] at p'; exact fun m2 H2 c d y R2 w => p' m2 H2 c d (x.trans y) R2 w
    | bad => rw [e] at p'; exact p'
  | err x h1 => exact p
  | bad => exact p
section
variable {K : PySem.W.Frag} {m : List Addr} {H : Hp} {h : Hst}
theorem wk_lst {n : Nat} {a : Addr} {xs : List D} (ha : m[n]? = some a) : Wk K (Itl K a) m H xs (some (n, xs)) := by
  intro m' H' h' x R c
  obtain ⟨_, vs, q, rs⟩ := R.look (x.pre _ _ ha) (show h'[n]? = some (.lst xs) from c)
  refine ⟨fun i d e => ?_, ⟨vs, .of q, by rw [rs.length]; exact Nat.le_refl _⟩⟩
  obtain ⟨v, hv, rv⟩ := rs.get e
  refine ⟨⟨vs, v, .of q, hv⟩, fun w H'' y => ?_⟩
  obtain ⟨e1, y⟩ := y
  subst e1
  have := y vs (.of q)
  rw [hv] at this
  cases this
  exact ⟨m', .refl, R, rv⟩
theorem wk_sl {a : Addr} {xs : List D} {vs : List V} (q : SqI K H a vs) (rs : RDs K m H xs vs) : Wk K (Itl K a) m H xs none := by
  intro m' H' h' x R c
  have q' := (x.sl _ _ q).seq
  have rs' := rs.mono x.e
  refine ⟨fun i d e => ?_, ⟨vs, q', by rw [rs'.length]; exact Nat.le_refl _⟩⟩
  obtain ⟨v, hv, rv⟩ := rs'.get e
  refine ⟨⟨vs, v, q', hv⟩, fun w H'' y => ?_⟩
  obtain ⟨e1, y⟩ := y
  subst e1
  have := y vs q'
  rw [hv] at this
  cases this
  exact ⟨m', .refl, R, rv⟩
theorem wk_tup {a : Addr} {xs : List D} {vs : List V} (q : H a = some (.tup vs)) (rs : RDs K m H xs vs) : Wk K (Itt K a) m H xs none := by
  intro m' H' h' x R c
  have q' : SqT K H' a vs := .of (x.tup _ _ q)
  have rs' := rs.mono x.e
  refine ⟨fun i d e => ?_, ⟨vs, q', by rw [rs'.length]; exact Nat.le_refl _⟩⟩
  obtain ⟨v, hv, rv⟩ := rs'.get e
  refine ⟨⟨vs, v, q', hv⟩, fun w H'' y => ?_⟩
  obtain ⟨e1, y⟩ := y
  subst e1
  have := y vs q'
  rw [hv] at this
  cases this
  exact ⟨m', .refl, R, rv⟩
def signs (s : List Nat) : List D := s.map fun c => .str [c]
theorem wk_str {s : List Nat} (b : StrB s) : Wk K (Its ⟨s.toArray⟩) m H (signs s) none := by
  intro m' H' h' x R c
  refine ⟨fun i d e => ?_, by show s.toArray.size ≤ _; simp [signs]⟩
  unfold signs at e
  rw [List.getElem?_map] at e
  obtain ⟨z, hz, rfl⟩ := Option.map_eq_some_iff.mp e
  have hi := (List.getElem?_eq_some_iff.mp hz).1
  refine ⟨by show i < s.toArray.size; simpa using hi, fun w H'' y => ?_⟩
  obtain ⟨e1, k, hk, rfl⟩ := y
  subst e1
  have hk' : s[i]? = some k := by simpa using hk
  rw [hz] at hk'
  cases hk'
  exact ⟨m', .refl, R, .str (s := [z]) ⟨by rw [sl_eq]; simp, fun w hw => by
    have : w = z := by simpa using hw
    rw [this]; exact b.cp z (List.mem_of_getElem? hz)⟩⟩
def rngD (lo : Int) : Nat → List D
  | 0 => []
  | n + 1 => .int lo :: rngD (lo + 1) n
theorem rngD_len : ∀ (lo : Int) (n : Nat), (rngD lo n).length = n
  | _, 0 => rfl
  | lo, n + 1 => congrArg Nat.succ (rngD_len (lo + 1) n)
theorem rngD_get : ∀ {n : Nat} {lo : Int} {i : Nat} {d : D}, (rngD lo n)[i]? = some d → i < n ∧ d = .int (lo + i)
  | 0, _, _, _, e => by simp [rngD] at e
  | n + 1, lo, 0, d, e => by simp [rngD] at e; subst e; simp
  | n + 1, lo, i + 1, d, e => by
    obtain ⟨h1, h2⟩ := rngD_get (n := n) (lo := lo + 1) (i := i) (by simpa [rngD] using e)
    refine ⟨by omega, ?_⟩
    rw [h2]
    congr 1
    omega
theorem wk_range {lo : Int} {n : Nat} : Wk K (Itr lo n) m H (rngD lo n) none := by
  intro m' H' h' x R c
  refine ⟨fun i d e => ?_, by show n ≤ _; rw [rngD_len]; exact Nat.le_refl _⟩
  obtain ⟨h1, rfl⟩ := rngD_get e
  refine ⟨h1, fun w H'' y => ?_⟩
  obtain ⟨e1, rfl⟩ := y
  subst e1
  exact ⟨m', .refl, R, .int _⟩
end
/-- a list, a tuple, a text -/
def iterD (d : D) (h : Hst) : Res (List D × Chk) := match d with
  | .ref n => match h[n]? with
    | some (.lst xs) => .ok (xs, some (n, xs)) h
    | _ => .bad
  | .sl xs => .ok (xs, none) h
  | .tup xs => .ok (xs, none) h
  | .str s => .ok (signs s, none) h
  | _ => .bad
def iSeq (f : Ev) : EvI := fun en h => (f en h).bind fun d h1 => iterD d h1
theorem si_seq {X : Cx} {W : WX} {tg l : Expr} {f : Ev} (hl : SE X W l f) : SI X W tg l (iSeq f) := by
  refine ⟨fun pins s σ H R I ⟨m, en, h, Rh, E, p⟩ => ?_⟩
  have q : Po X.K W (RD X.K) m H σ (f en h) (fun v H1 => ∃ m1 d h1, f en h = .ok d h1 ∧ Ext X.K m H m1 H1 ∧ RH X.K m1 H1 h1 ∧ RD X.K m1 H1 d v ∧ PoI X.K W m1 H1 σ (iterD d h1) R) := by
    have q := PoI.bind (rel := RD X.K) p
    cases e : f en h with
    | ok d h1 =>
      rw [e] at q
      intro m' H' v x R' r
      obtain ⟨m1, d1, h2, a, b, c, z⟩ := q m' H' v x R' r
      exact ⟨m', d, h1, rfl, x, R', r, by
        have p' : PoI X.K W m H σ ((f en h).bind fun d h1 => iterD d h1) R := p
        rw [e] at p'
        have p2 : PoI X.K W m H σ (iterD d h1) R := p'
        cases e2 : iterD d h1 with
        | ok a2 h3 => rw [e2] at p2; exact fun m2 H2 J y R2 w => p2 m2 H2 J (x.trans y) R2 w
        | err x2 h3 => rw [e2] at p2; exact fun m2 H2 c d y R2 w => p2 m2 H2 c d (x.trans y) R2 w
        | bad => rw [e2] at p2; exact p2⟩
    | err x h1 => rw [e] at q; exact q
    | bad => rw [e] at q; exact q
  cases e : f en h with
  | ok d h0 =>
    have isL : (∃ n, d = .ref n) ∨ (∃ xs, d = .sl xs) → wpAny (model X.prog X.w) X.A (eval l X.env) (fun v s1 => wpAny (model X.prog X.w) X.A (pyIter v) (PIE X pins σ tg R) X.xe s1) X.xe s := fun hd => (pi_list hl).run pins s σ H R I ⟨m, en, h, Rh, E, q.imp fun v H1 ⟨m1, d1, h1, e1, x1, R1, r1, p1⟩ => by
      rw [e] at e1
      cases e1
      rcases hd with ⟨n, rfl⟩ | ⟨xs, rfl⟩
      · cases r1 with
        | ref ha =>
          unfold iterD at p1
          dsimp only at p1
          split at p1
          · rename_i xs he
            obtain ⟨_, vs, q, rs⟩ := R1.look ha he
            exact ⟨_, rfl, ⟨vs, .of q⟩, p1 m1 H1 _ .refl R1 (wk_lst ha)⟩
          · exact p1.elim
      · cases r1 with
        | sl l q rs => exact ⟨_, rfl, ⟨_, q.seq⟩, p1 m1 H1 _ .refl R1 (wk_sl q rs)⟩⟩
    cases d with
    | ref n => exact isL (.inl ⟨n, rfl⟩)
    | sl xs => exact isL (.inr ⟨xs, rfl⟩)
    | tup xs => exact (pi_tup hl).run pins s σ H R I ⟨m, en, h, Rh, E, q.imp fun v H1 ⟨m1, d1, h1, e1, x1, R1, r1, p1⟩ => by
        rw [e] at e1
        cases e1
        cases r1 with
        | tup l q rs => exact ⟨_, rfl, ⟨_, .of q⟩, p1 m1 H1 _ .refl R1 (wk_tup q rs)⟩⟩
    | str cs => exact (pi_str hl).run pins s σ H R I ⟨m, en, h, Rh, E, q.imp fun v H1 ⟨m1, d1, h1, e1, x1, R1, r1, p1⟩ => by
        rw [e] at e1
        cases e1
        cases r1 with
        | str b => exact ⟨_, rfl, p1 m1 H1 _ .refl R1 (wk_str b)⟩⟩
    | _ => exact (pi_list hl).run pins s σ H R I ⟨m, en, h, Rh, E, q.imp fun v H1 ⟨m1, d1, h1, e1, x1, R1, r1, p1⟩ => by
        rw [e] at e1
        cases e1
        exact p1.elim⟩
  | err x h0 => exact (pi_list hl).run pins s σ H R I ⟨m, en, h, Rh, E, q.imp fun v H1 ⟨m1, d1, h1, e1, x1, R1, r1, p1⟩ => by rw [e] at e1; cases e1⟩
  | bad => rw [e] at q; exact q.elim
/-- range(b), range(a, b), range(a, b, -1) .. -/
def iRng1 (f : Evs) : EvI := fun en h => (f en h).bind fun ds h1 => match ds with
  | [.int j] => if -4611686018427387904 ≤ j ∧ j < 4611686018427387904 then .ok (rngD 0 j.toNat, none) h1 else .bad
  | _ => .bad
def iRng2 (f : Evs) : EvI := fun en h => (f en h).bind fun ds h1 => match ds with
  | [.int i, .int j] => if -4611686018427387904 ≤ i ∧ i < 4611686018427387904 ∧ -4611686018427387904 ≤ j ∧ j < 4611686018427387904 then .ok (rngD i (j - i).toNat, none) h1 else .bad
  | _ => .bad
theorem pi_if {K : PySem.W.Frag} {W : WX} {m : List Addr} {H : Hp} {σ : L2.St} {R : It → Hp → Prop} {c : Prop} [Decidable c] {r : Res (List D × Chk)} (p : PoI K W m H σ (if c then r else .bad) R) : c ∧ PoI K W m H σ r R := by
  by_cases hc : c
  · rw [if_pos hc] at p; exact ⟨hc, p⟩
  · rw [if_neg hc] at p; exact p.elim
section
variable {X : Cx} {W : WX} {tg a b : Expr} {f : Evs} {p pos : Pos}
theorem si_rng1 (hg : Gl X "range") (hm : X.mg "range" = none) (ha : SA X W [a] f) (hs : starEach [a] X.env = [(false, eval a X.env)] := by rfl) : SI X W tg (.Call (.Name "range" p) [a] [] pos) (iRng1 f) :=
  viaI (pi_range1 hg hm ha hs) fun σ H R ⟨m, en, h, Rh, E, q⟩ => ⟨m, en, h, Rh, E, Po.imp (PoI.bind (rel := RDs X.K) q) fun vs H1 ⟨m1, ds, h1, x1, R1, rs, p1⟩ => by
    split at p1
    · obtain ⟨hc, p1⟩ := pi_if p1
      cases rs with
      | cons r rs =>
        cases rs; cases r
        exact ⟨_, rfl, hc.1, hc.2, p1 m1 H1 _ .refl R1 wk_range⟩
    · exact p1.elim⟩
theorem si_rng2 (hg : Gl X "range") (hm : X.mg "range" = none) (ha : SA X W [a, b] f) (hs : starEach [a, b] X.env = [(false, eval a X.env), (false, eval b X.env)] := by rfl) (hs2 : starEach [b] X.env = [(false, eval b X.env)] := by rfl) : SI X W tg (.Call (.Name "range" p) [a, b] [] pos) (iRng2 f) :=
  viaI (pi_range2 hg hm ha hs hs2) fun σ H R ⟨m, en, h, Rh, E, q⟩ => ⟨m, en, h, Rh, E, Po.imp (PoI.bind (rel := RDs X.K) q) fun vs H1 ⟨m1, ds, h1, x1, R1, rs, p1⟩ => by
    split at p1
    · obtain ⟨hc, p1⟩ := pi_if p1
      cases rs with
      | cons r rs =>
        cases rs with
        | cons r' rs =>
          cases rs; cases r; cases r'
          exact ⟨_, _, rfl, hc, p1 m1 H1 _ .refl R1 wk_range⟩
    · exact p1.elim⟩
end

/-! ### for -/
def forL (chk : Chk) (g : Tg) (b : Sm) : List D → Sm
  | [], en, h => if chk.ok h then .nx en h else .bad
  | x :: xs, en, h => if chk.ok h then match g x en with
    | some en1 => match b en1 h with
      | .nx en2 h2 => forL chk g b xs en2 h2
      | .ct en2 h2 => forL chk g b xs en2 h2
      | .bk en2 h2 => .nx en2 h2
      | r => r
    | none => .bad
    else .bad
def sFor (f : EvI) (g : Tg) (b : Sm) : Sm := fun en h => match f en h with
  | .ok a h1 => forL a.2 g b a.1 en h1
  | .err x h1 => .err x en h1
  | .bad => .bad
theorem pos_if {K : PySem.W.Frag} {W : WX} {m : List Addr} {H : Hp} {D : Ends} {c : Prop} [Decidable c] {r : SR} (p : PoS K W m H (if c then r else .bad) D) : c ∧ PoS K W m H r D := by
  by_cases hc : c
  · rw [if_pos hc] at p; exact ⟨hc, p⟩
  · rw [if_neg hc] at p; exact p.elim
section
variable {X : Cx} {W : WX} {tg iter : Expr} {body : List Stmt} {pos : Pos} {f : EvI} {g : Tg} {b : Sm} {sl : List Nat}
theorem ss_for (hp : PassesOwn (model X.prog X.w) X.A X.env X.xe) (hc : X.calm = true) (hi : SI X W tg iter f) (hg : SG X tg sl g) (hb : SSs X W body b) (hs : ∀ x, foldedSetIterable iter X.env x = pure x := by intro _; rfl) : SS X W (.For tg iter body [] pos) (sFor f g b) :=
  viaS (ps_for hp hc hi hg hb hs) fun D σ H ⟨m, en, h, R, E, p⟩ => ⟨m, en, h, R, E, by
    unfold sFor at p
    cases e : f en h with
    | err x h1 => rw [e] at p; exact fun m' H' c d x' R' q => p m' H' σ c d x' R' (E.mono x') q
    | bad => rw [e] at p; exact p
    | ok a h1 =>
      rw [e] at p
      obtain ⟨items, chk⟩ := a
      intro m1 H1 J x1 R1 wk
      have p1 : PoS X.K W m1 H1 (forL chk g b items en h1) D := PoS.mono x1 p
      refine ⟨fun i k σ' H' => k + i = items.length ∧ ∃ m' en' h', Ext X.K m1 H1 m' H' ∧ RH X.K m' H' h' ∧ REn X.K m' H' en' σ' ∧ PoS X.K W m' H' (forL chk g b (items.drop i) en' h') D, ⟨items.length, rfl, m1, en, h1, .refl, R1, E.mono x1, p1⟩, ?_⟩
      rintro i k σ2 H2 ⟨ek, m2, en2, h2, x2, R2, E2, p2⟩
      cases k with
      | zero =>
        have hi : i = items.length := by omega
        rw [hi, List.drop_length] at p2
        obtain ⟨hk, p2⟩ := pos_if p2
        refine .inl ⟨?_, ps_nx R2 E2 p2⟩
        rw [hi]
        exact (wk m2 H2 h2 x2 R2 hk).2
      | succ k =>
        have hi : i < items.length := by omega
        rw [List.drop_eq_getElem_cons hi] at p2
        obtain ⟨hk, p2⟩ := pos_if p2
        obtain ⟨go, yl⟩ := (wk m2 H2 h2 x2 R2 hk).1 i _ (List.getElem?_eq_getElem hi)
        split at p2
        · rename_i en3 e3
          refine .inr ⟨go, fun σ' H' => ∃ m' en' h', Ext X.K m1 H1 m' H' ∧ RH X.K m' H' h' ∧ REn X.K m' H' en' σ' ∧ PoS X.K W m' H' (forL chk g b (items.drop (i + 1)) en' h') D, fun σ' H' q => ⟨k, Nat.lt_succ_self k, by omega, q⟩, fun v H3 y => ?_⟩
          obtain ⟨m3, x3, R3, r3⟩ := yl v H3 y
          refine ⟨m3, en2, _, h2, R3, E2.mono x3, r3, en3, e3, fun σ' E3 _ => ⟨m3, en3, h2, R3, E3, ?_⟩⟩
          have p3 := PoS.mono x3 p2
          cases eb : b en3 h2 with
          | nx en4 h4 => rw [eb] at p3; exact fun m' H' σ' x R' E' => ⟨m', en4, h4, (x2.trans x3).trans x, R', E', PoS.mono x p3⟩
          | ct en4 h4 => rw [eb] at p3; exact fun m' H' σ' x R' E' => ⟨m', en4, h4, (x2.trans x3).trans x, R', E', PoS.mono x p3⟩
          | bk en4 h4 => rw [eb] at p3; exact p3
          | rt v h4 => rw [eb] at p3; exact p3
          | err x en4 h4 => rw [eb] at p3; exact p3
          | bad => rw [eb] at p3; exact p3
        · exact p2.elim⟩
end

/-! ### comprehensions -/
abbrev W0 : WX := fun _ _ _ _ => False
def tsN : EvT := fun _ h => .ok true h
def lcL (chk : Chk) (g : Tg) (t : EvT) (f : Ev) (en : En) : List D → List D → Hst → Res (List D)
  | [], acc, h => if chk.ok h then .ok acc h else .bad
  | x :: xs, acc, h => if chk.ok h then match g x en with
    | some en1 => match t en1 h with
      | .ok true h1 => match f en1 h1 with
        | .ok d h2 => if acc.length < 16777216 then lcL chk g t f en xs (acc ++ [d]) h2 else .bad
        | _ => .bad
      | .ok false h1 => lcL chk g t f en xs acc h1
      | _ => .bad
    | none => .bad
    else .bad
def vLc (vs : List Nat) (i : EvI) (g : Tg) (t : EvT) (f : Ev) : Ev := fun en h => match i en h with
  | .ok a h1 => (lcL a.2 g t f (wipeE en vs) a.1 [] h1).bind fun ds h2 => .ok (.ref h2.length) (h2 ++ [.lst ds])
  | .err x h1 => .err x h1
  | .bad => .bad
abbrev STs (X : Cx) (W : WX) (es : List Expr) (f : EvT) : Prop := PTs X es (RdT X.K W f)
theorem sts_nil {X : Cx} {W : WX} : STs X W [] tsN := ⟨fun pins s σ H Q I ⟨m, en, h, R, E, p⟩ => pts_nil.run pins s σ H Q I (po_ok (rel := fun _ _ a b => a = b) p R rfl)⟩
theorem sts_one {X : Cx} {W : WX} {c : Expr} {t : EvT} (h : ST X W c t) : STs X W [c] t := pts_one h
theorem wipe_in {σ : L2.St} {i : Nat} : ∀ {vs : List Nat}, i ∈ vs → i < σ.length → (wipe σ vs)[i]? = some none
  | v :: vs, h, hl => by
    unfold L2.wipe
    by_cases z : v = i
    · subst z
      rw [List.getElem?_set_self (by rw [wipe_length]; exact hl)]
    · rw [List.getElem?_set_ne z]
      rcases List.mem_cons.mp h with e | e
      · exact absurd e.symm z
      · exact wipe_in e hl
theorem wipe_eq {σ σ' : L2.St} {sl vs : List Nat} (o : Only sl (wipe σ vs) σ') (hs : ∀ i ∈ sl, i ∈ vs) : wipe σ' vs = wipe σ vs := by
  have hl : σ'.length = σ.length := by rw [o.1, wipe_length]
  apply List.ext_getElem?
  intro i
  by_cases hi : i ∈ vs
  · by_cases h : i < σ.length
    · rw [wipe_in hi h, wipe_in hi (by rw [hl]; exact h)]
    · rw [List.getElem?_eq_none (by rw [wipe_length]; omega), List.getElem?_eq_none (by rw [wipe_length]; omega)]
  · rw [wipe_out hi, o.2 i (fun z => hi (hs i z))]
section
variable {K : PySem.W.Frag} {m m1 : List Addr} {H H1 : Hp} {p : Addr} {xs ys : List V}
theorem Ex0.lst (h : H p = some (.lst xs)) : Ex0 K m H m (upd H p (.lst ys)) :=
  ⟨fun _ _ e => e, (Ext.upd0 (K := K) (.inr (by rw [h]; trivial))).1, (Ext.upd0 (.inr (by rw [h]; trivial))).2⟩
theorem Ext.lst (x : Ext K m H m1 H1) (hp : H p = none) (h : H1 p = some (.lst xs)) : Ext K m H m1 (upd H1 p (.lst ys)) :=
  ⟨x.pre, fun a vs e => (Ext.upd0 (K := K) (.inr (by rw [h]; trivial))).1 a vs (x.tup a vs e), fun a vs e => (Ext.upd0 (.inr (by rw [h]; trivial))).2 a vs (x.sl a vs e), fun a o e n => by
    rw [upd_ne (fun z => by subst z; rw [hp] at e; cases e)]; exact x.frm a o e n, x.new⟩
end
section
variable {X : Cx} {W : WX} {elt tg iter : Expr} {ifs : List Expr} {scope : Scope} {own : List (Str × Nat)} {pos spos : Pos} {i : EvI} {g : Tg} {t : EvT} {f : Ev} {sl : List Nat}
/-- the block's reading -/
theorem rd_lc {K : PySem.W.Frag} {vs : List Nat} (hsl : ∀ j ∈ sl, j ∈ vs) : ∀ σ H Q, RdE K W (vLc vs i g t f) σ H Q → tLc (RdI K W i) (RdG K sl g) (RdT K W0 t) (RdE K W0 f) vs σ H Q := by
  rintro σ H Q ⟨m, en, h, R, E, p⟩
  refine ⟨m, en, h, R, E, ?_⟩
  unfold vLc at p
  cases e : i en h with
  | err x h1 => rw [e] at p; exact p
  | bad => rw [e] at p; exact p
  | ok a h1 =>
    rw [e] at p
    obtain ⟨items, chk⟩ := a
    intro m1 H1 J x1 R1 wk D hD
    have p1 : Po K W (RD K) m1 H1 σ ((lcL chk g t f (wipeE en vs) items [] h1).bind fun ds h2 => .ok (.ref h2.length) (h2 ++ [O.lst ds])) Q := Po.mono x1 p
    refine ⟨fun j k H' => k + j = items.length ∧ ∃ m' h' acc av, Ext K m1 H1 m' H' ∧ RH K m' H' h' ∧ H' D = some (.lst av) ∧ D ∉ m' ∧ RDs K m' H' acc av ∧ acc.length ≤ 16777216 ∧
      Po K W (RD K) m1 H1 σ ((lcL chk g t f (wipeE en vs) (items.drop j) acc h').bind fun ds h2 => .ok (.ref h2.length) (h2 ++ [O.lst ds])) Q,
      ⟨items.length, rfl, m1, h1, [], [], Ext.fresh hD, R1.laid hD, upd_same, R1.free hD, .nil, by simp, p1⟩, ?_⟩
    rintro j k H2 ⟨ek, m2, h2, acc, av, x2, R2, eD, nD, ra, la, p2⟩
    cases k with
    | zero =>
      have hj : j = items.length := by omega
      rw [hj, List.drop_length] at p2
      unfold lcL at p2
      by_cases hk : chk.ok h2
      · rw [if_pos hk] at p2
        refine .inl ⟨by rw [hj]; exact (wk m2 H2 h2 x2 R2 hk).2, ?_⟩
        have x3 : Ex0 K m2 H2 (m2 ++ [D]) H2 := ⟨more _, fun _ _ e => e, fun _ _ e => e⟩
        refine p2 (m2 ++ [D]) H2 _ ⟨fun n a e => more _ n a (x2.pre n a e), x2.tup, x2.sl, x2.frm, fun a ha => ?_⟩ (R2.adopt nD ⟨by rw [sl_eq]; exact la, av, eD, ra.mono x3⟩ x3) (.ref (by rw [← R2.len, List.getElem?_concat_length]))
        rcases List.mem_append.mp ha with ha | ha
        · exact x2.new a ha
        · have : a = D := by simpa using ha
          subst this
          exact .inr hD
      · rw [if_neg hk] at p2
        exact p2.elim
    | succ k =>
      have hj : j < items.length := by omega
      rw [List.drop_eq_getElem_cons hj] at p2
      unfold lcL at p2
      by_cases hk : chk.ok h2
      · rw [if_pos hk] at p2
        obtain ⟨go, yl⟩ := (wk m2 H2 h2 x2 R2 hk).1 j _ (List.getElem?_eq_getElem hj)
        refine .inr ⟨go, fun H' => ∃ m' h' acc av, Ext K m1 H1 m' H' ∧ RH K m' H' h' ∧ H' D = some (.lst av) ∧ D ∉ m' ∧ RDs K m' H' acc av ∧ acc.length ≤ 16777216 ∧
          Po K W (RD K) m1 H1 σ ((lcL chk g t f (wipeE en vs) (items.drop (j + 1)) acc h').bind fun ds h2 => .ok (.ref h2.length) (h2 ++ [O.lst ds])) Q, fun H' q => ⟨k, Nat.lt_succ_self k, by omega, q⟩, fun v H3 y => ?_⟩
        obtain ⟨m3, x3, R3, r3⟩ := yl v H3 y
        have x13 := x2.trans x3
        have eD3 := x3.frm D _ eD nD
        have nD3 : D ∉ m3 := fun z => (x3.new D z).elim nD (fun q => by rw [eD] at q; cases q)
        cases eg : g items[j] (wipeE en vs) with
        | none => rw [eg] at p2; exact p2.elim
        | some en1 =>
          rw [eg] at p2
          refine ⟨m3, _, _, h2, R3, (REn.wipe E vs).mono (x1.trans x13), r3, en1, eg, fun σ2 E2 o2 => ⟨wipe_eq o2 hsl, m3, en1, h2, R3, E2, ?_⟩⟩
          dsimp only at p2
          cases et : t en1 h2 with
          | err x h3 => rw [et] at p2; exact p2.elim
          | bad => rw [et] at p2; exact p2.elim
          | ok b h3 =>
            rw [et] at p2
            intro m4 H4 b' x4 R4 eb
            subst eb
            have eD4 := x4.frm D _ eD3 nD3
            have nD4 : D ∉ m4 := fun z => (x4.new D z).elim nD3 (fun q => by rw [eD3] at q; cases q)
            cases b with
            | false => exact iteF ⟨m4, h3, acc, av, x13.trans x4, R4, eD4, nD4, ra.mono (x3.trans x4), la, p2⟩
            | true =>
              refine iteT ⟨m4, en1, h3, R4, E2.mono x4, ?_⟩
              dsimp only at p2
              cases ef : f en1 h3 with
              | err x h4 => rw [ef] at p2; exact p2.elim
              | bad => rw [ef] at p2; exact p2.elim
              | ok d h4 =>
                rw [ef] at p2
                intro m5 H5 u x5 R5 ru
                have eD5 := x5.frm D _ eD4 nD4
                have nD5 : D ∉ m5 := fun z => (x5.new D z).elim nD4 (fun q => by rw [eD4] at q; cases q)
                dsimp only at p2
                by_cases hl : acc.length < 16777216
                · rw [if_pos hl] at p2
                  have ra5 := ra.mono (x3.trans (x4.trans x5)).e
                  have x6 : Ex0 K m5 H5 m5 (upd H5 D (.lst (av ++ [u]))) := Ex0.lst eD5
                  exact ⟨av, eD5, by rw [← ra5.length, sl_eq]; exact hl, m5, h4, acc ++ [d], av ++ [u], ((x13.trans x4).trans x5).lst hD eD5, R5.other nD5 x6, upd_same, nD5, (ra5.append (.one ru)).mono x6, by simp; omega, p2⟩
                · rw [if_neg hl] at p2
                  exact p2.elim
      · rw [if_neg hk] at p2
        exact p2.elim
theorem se_lc (hc : X.calm = true) (hN : X.N.Nodup) (hi : SI X W tg iter i) (ok : BlkOk X.N X.env.scope scope own)
    (hg : ∀ (s : Shared) (H : Hp) (C : Addr) (cl : List (Str × Addr)) (fp : List Addr), SG (X.blk s H scope (compEnvC scope cl C X.env) fp) tg sl g) (ht : ∀ (s : Shared) (H : Hp) (C : Addr) (cl : List (Str × Addr)) (fp : List Addr), STs (X.blk s H scope (compEnvC scope cl C X.env) fp) W0 ifs t)
    (he : ∀ (s : Shared) (H : Hp) (C : Addr) (cl : List (Str × Addr)) (fp : List Addr), SE (X.blk s H scope (compEnvC scope cl C X.env) fp) W0 elt f) (hsl : ∀ j ∈ sl, j ∈ own.map (·.2) := by decide) (hs : ∀ x, foldedSetIterable iter X.env x = pure x := by intro _; rfl) :
    SE X W (.ListComp elt [⟨tg, iter, ifs, 0⟩] scope pos) (vLc (own.map (·.2)) i g t f) :=
  viaE (pe_lc hc hN hi ok hg ht he hs) (rd_lc hsl)
theorem ss_setLc {j : Nat} {y : Str} {py : Pos} (hc : X.calm = true) (hN : X.N.Nodup) (hsw : swapsWith (.ListComp elt [⟨tg, iter, ifs, 0⟩] scope pos) (some (.Name y py)) spos.line X.env = pure true) (hi : SI X W tg iter i) (ok : BlkOk X.N X.env.scope scope own)
    (hg : ∀ (s : Shared) (H : Hp) (C : Addr) (cl : List (Str × Addr)) (fp : List Addr), SG (X.blk s H scope (compEnvC scope cl C X.env) fp) tg sl g) (ht : ∀ (s : Shared) (H : Hp) (C : Addr) (cl : List (Str × Addr)) (fp : List Addr), STs (X.blk s H scope (compEnvC scope cl C X.env) fp) W0 ifs t)
    (he : ∀ (s : Shared) (H : Hp) (C : Addr) (cl : List (Str × Addr)) (fp : List Addr), SE (X.blk s H scope (compEnvC scope cl C X.env) fp) W0 elt f) (hsl : ∀ j ∈ sl, j ∈ own.map (·.2) := by decide) (hy : X.N[j]? = some y := by rfl) (hyl : X.env.scope.names.lookup y = some .local := by rfl) (hs : ∀ x, foldedSetIterable iter X.env x = pure x := by intro _; rfl) :
    SS X W (.Assign [.Name y py] (.ListComp elt [⟨tg, iter, ifs, 0⟩] scope pos) spos) (sSet j (vLc (own.map (·.2)) i g t f)) :=
  viaS (ps_setLc hc hN hy hyl hsw hi ok hg ht he hs) fun D σ H ⟨m, en, h, R, E, p⟩ => rd_lc hsl σ H _ ⟨m, en, h, R, E, Po.imp (PoS.bind (rel := RD X.K) E p) fun v H1 ⟨m1, d, h1, x1, R1, r, E1, p1⟩ => ps_nx R1 (E1.set r j) p1⟩
end
end Mi

namespace Mi
open PySem PySem.Spec PyProof.Rows L2

/-! ### defs -/
/-- a def's run: its parameters' number, its slots' number, its body -/
def finishX (h : Hst) (x : Ex) (h' : Hst) : Res D :=
  if h'.take h.length = h ∧ (x.fs.all fun p => p.2.noRef) = true then .err x h else .err x h'
def runF (ns : Nat) (b : Sm) (ds : List D) (h : Hst) : Res D := match b (ds.map some ++ List.replicate (ns - ds.length) none) h with
  | .nx _ h' => finish h .non h'
  | .rt d h' => finish h d h'
  | .err x _ h' => finishX h x h'
  | _ => .bad
/-- the promise of a def -/
def spM (K : PySem.W.Frag) (np : Nat) (F : List D → Hst → Res D) : Sp := fun vs H Q E => ∃ m h ds, RH K m H h ∧ RDs K m H ds vs ∧ ds.length = np ∧ Po K (fun c d _ H' => E c d H') (RD K) m H [] (F ds h) Q
structure FnM (P : Program) (w : World) (K : PySem.W.Frag) (mg : Str → Option Value) (base : Heap) (n : Nat) (d : He.DefD) (ps : List Str) (F : List D → Hst → Res D) : Prop where
  ex : ∃ fd, FunD K d.name d.qual d.params d.body d.scope (d.dvs K) (d.kws K) (He.fAd K d.at_) fd ∧ FnOk P w K mg base (L2.CX P w) n (He.fAd K d.at_) fd ps (spM K ps.length F) ∧ Binds K fd ps []
section
variable {P : Program} {w : World} {K : PySem.W.Frag} {mg : Str → Option Value} {base : Heap} {n : Nat} {d : He.DefD} {ps N : List Str} {F : List D → Hst → Res D}
theorem fn_zero {fd : FuncData} (hF : FunD K d.name d.qual d.params d.body d.scope (d.dvs K) (d.kws K) (He.fAd K d.at_) fd) (hb : Binds K fd ps []) (h0 : ∀ ds h, F ds h = .bad) : FnM P w K mg base 0 d ps F := by
  have no : ∀ vs H Q E, ¬ spM K ps.length F vs H Q E := fun vs H Q E ⟨m, h, ds, _, _, _, p⟩ => by
    rw [h0] at p
    exact p
  exact ⟨fd, hF, ⟨fun vs H Q E h => absurd h (no vs H Q E), fun A outer s H args us vs Q E _ _ _ _ h => absurd h (no vs H Q E)⟩, hb⟩
theorem env_start {m : List Addr} {H : Hp} : ∀ {ds : List D} {vs : List V} (k : Nat), RDs K m H ds vs → REn K m H (ds.map some ++ List.replicate k none) (vs.map some ++ List.replicate k none)
  | ds, vs, k, r => by
    refine ⟨by simp [r.length], fun i d e => ?_⟩
    by_cases hi : i < ds.length
    · rw [List.getElem?_append_left (by simpa using hi), List.getElem?_map] at e
      obtain ⟨x, hx, e⟩ := Option.map_eq_some_iff.mp e
      cases e
      obtain ⟨v, hv, rv⟩ := r.get hx
      exact ⟨v, by rw [List.getElem?_append_left (by simpa [← r.length] using hi), List.getElem?_map, hv]; rfl, rv⟩
    · rw [List.getElem?_append_right (by simpa using hi)] at e
      obtain ⟨h1, h2⟩ := List.getElem?_eq_some_iff.mp e
      simp at h2
theorem RFs.any {m m' : List Addr} {H : Hp} : ∀ {fs : List (Str × D)} {ws : List (Str × V)}, (fs.all fun p => p.2.noRef) = true → RFs K m H fs ws → RFs K m' H fs ws
  | _, _, _, .nil => .nil
  | _, _, h, .cons r rs => by
    rw [List.all_cons, Bool.and_eq_true] at h
    exact .cons (r.any h.1) (RFs.any h.2 rs)
/-- a def of the text keeps its promise -/
theorem fn_succ {fd : FuncData} {b : Sm} (hF : FunD K d.name d.qual d.params d.body d.scope (d.dvs K) (d.kws K) (He.fAd K d.at_) fd) (hb : Binds K fd ps []) (S : FnScope N ps d.scope) (hN : ps.length ≤ N.length)
    (body : ∀ (cdv : Value) (A : Around) (outer : List Env) (s : Shared) (H : Hp) (E : XK), Room n (A.deeper (envOfC d.qual d.scope s.heap.objs.size (He.fAd K d.at_) cdv)) →
      SSs (cxOf (L2.CX P w) P w K mg base N d.qual d.scope (He.fAd K d.at_) cdv A outer s H E) (fun c dd _ H' => E c dd H') d.body b)
    (hf : ∀ ds h, F ds h = runF N.length b ds h) : FnM P w K mg base (n + 1) d ps F := by
  refine ⟨fd, hF, FunD.ok hF S (fun vs H Q E ⟨m, h, ds, _, rs, hl, _⟩ => by rw [← rs.length, hl]) (fun cdv A outer s H vs Q E hr ⟨m, h, ds, R, rs, hl, p⟩ => ⟨_, body cdv A outer s H E hr, ?_⟩), hb⟩
  have hlv : vs.length = ds.length := rs.length.symm
  refine ⟨m, ds.map some ++ List.replicate (N.length - ds.length) none, h, R, ?_, ?_⟩
  · unfold L2.start
    rw [hlv]
    exact env_start _ rs
  · rw [hf] at p
    unfold runF at p
    cases e : b (ds.map some ++ List.replicate (N.length - ds.length) none) h with
    | nx en h' =>
      rw [e] at p
      dsimp only at p
      intro m' H' σ' x R' E'
      obtain ⟨m2, d2, h2, e2, x2, R2, r2⟩ := finish_ok R x R' (.non : RD K m' H' .non .non)
      rw [show (finish h D.non h') = .ok d2 h2 from e2] at p
      exact p m2 H' _ x2 R2 r2
    | rt dv h' =>
      rw [e] at p
      dsimp only at p
      intro m' H' v x R' r
      obtain ⟨m2, d2, h2, e2, x2, R2, r2⟩ := finish_ok R x R' r
      rw [show (finish h dv h') = .ok d2 h2 from e2] at p
      exact p m2 H' _ x2 R2 r2
    | err xx en h' =>
      rw [e] at p
      intro m' H' σ' cls dd x R' E' rx
      have p' : Po K (fun c d _ H' => E c d H') (RD K) m H [] (finishX h xx h') Q := p
      unfold finishX at p'
      split at p'
      · rename_i hc
        refine p' m H' cls dd ⟨fun _ _ q => q, x.tup, x.sl, x.frm, fun _ q => .inl q⟩ (R'.first R x hc.1) ⟨rx.1, ?_⟩
        rcases rx.2 with h1 | ⟨da, ws, h1, h2, h3⟩
        · exact .inl h1
        · exact .inr ⟨da, ws, h1, h2, RFs.any hc.2 h3⟩
      · exact p' m' H' cls dd x R' rx
    | bk en h' => rw [e] at p; exact p.elim
    | ct en h' => rw [e] at p; exact p.elim
    | bad => rw [e] at p; exact p.elim
end
/-- a call: np arguments -/
def vF (np : Nat) (g : List D → Hst → Res D) (f : Evs) : Ev := fun en h => (f en h).bind fun ds h1 => if ds.length = np then g ds h1 else .bad
section
variable {X : Cx} {W : WX} {n : Nat} {d : He.DefD} {ps : List Str} {F : List D → Hst → Res D} {e : Expr} {es : List Expr} {x : Str} {p pos : Pos} {f : Evs}
theorem se_call {np : Nat} (G : FnM X.prog X.w X.K X.mg X.base n d ps F) (hr : Room n X.A) (tk : Takes X W) (hg : Gl X x) (hm : X.mg x = some (.ref (He.fAd X.K d.at_))) (ha : SA X W (e :: es) f) (hdb : (x == ("__debug__" : Str)) = false := by decide)
    (he : starEach (e :: es) X.env = (false, eval e X.env) :: starEach es X.env := by rfl) (hpl : (backTo pos (starEach es X.env)).any (·.1) = false := by rfl)
    (hnp : ps.length = np := by rfl) : SE X W (.Call (.Name x p) (e :: es) [] pos) (vF np F f) := by
  subst hnp
  obtain ⟨fd, hF, ok, hb⟩ := G.ex
  refine viaE (pe_callSD ok hr hg hm hF.kp hb .nil (fun σ => passAt tk σ) ha hdb he hpl) fun σ H Q ⟨m, en, h, R, E, q⟩ => ⟨m, en, h, R, E, Po.imp (Po.bind (rel := RDs X.K) q) fun vs H1 ⟨m1, ds, h1, x1, R1, rs, p1⟩ => ?_⟩
  obtain ⟨hl, p1⟩ := p_if p1
  rw [List.append_nil]
  refine ⟨m1, h1, ds, R1, rs, hl, ?_⟩
  cases ef : F ds h1 with
  | ok a h2 => rw [ef] at p1; exact p1
  | err a h2 => rw [ef] at p1; exact p1
  | bad => rw [ef] at p1; exact p1
end
/-! ### stores -/
def setD (o i v : D) (h : Hst) : Option Hst := match o with
  | .ref n => match h[n]? with
    | some (.lst xs) => match i with
      | .int k => match ixN xs.length k with
        | some j => some (h.set n (.lst (xs.set j v)))
        | none => none
      | _ => none
    | some (.dic tk kvs) => match dPut kvs tk i v with
      | some kvs' => some (h.set n (.dic tk kvs'))
      | none => none
    | _ => none
  | _ => none
def rSetM : V → V → V → Hp → (Hp → Prop) → Prop := fun o i v H Q => rSetL o i v H Q ∨ ∃ a H', o = .ref a ∧ DPut H a i v H' ∧ Q H'
theorem set_M {X : Cx} (hu : X.A.units + 1 < cLine) : PSet X rSetM := by
  intro pins s σ H o i v ov iv u Q I ro ri rv h
  rcases h with h | ⟨a, H', rfl, g, q⟩
  · exact set_list pins s σ H o i v ov iv u Q I ro ri rv h
  · cases ro
    exact d_setItem hu I g ri rv fun s' I' => ⟨H', I', q⟩
theorem setD_ok {K : PySem.W.Frag} {m : List Addr} {H : Hp} {h h' : Hst} {o i v : D} {ov iv vv : V} {Q : Hp → Prop} (R : RH K m H h) (ro : RD K m H o ov) (ri : RD K m H i iv) (rv : RD K m H v vv) (e : setD o i v h = some h') (q : ∀ H', Ext K m H m H' → RH K m H' h' → Q H') : rSetM ov iv vv H Q := by
  unfold setD at e
  split at e
  · cases ro with
    | ref ha =>
      split at e
      · rename_i xs he
        split at e
        · split at e
          · rename_i j hj
            cases e
            cases ri
            obtain ⟨l, vs, eq, rs⟩ := R.look ha he
            have x : Ext K m H m (upd H _ (.lst (vs.set j vv))) := Ext.write ha (by rw [eq]; trivial)
            exact .inl ⟨_, _, _, j, rfl, rfl, eq, by rw [← rs.length]; exact hj, q _ x (R.write ha ⟨by rw [List.length_set]; exact l, _, upd_same, (rs.set rv j).mono x.e⟩)⟩
          · cases e
        · cases e
      · rename_i tk kvs he
        split at e
        · rename_i kvs' hp
          cases e
          obtain ⟨H', g, x, R'⟩ := dPut_ok R ha he ri rv hp
          exact .inr ⟨_, H', rfl, g, q H' x R'⟩
        · cases e
      · cases e
  · cases e
def sIx (fo fi fv : Ev) : Sm := fun en h => bindS (fv en h) en fun v h1 => bindS (fo en h1) en fun o h2 => bindS (fi en h2) en fun i h3 => match setD o i v h3 with
  | some h4 => .nx en h4
  | none => .bad
/-- name op= e -/
def sAug (i : Nat) (g : D → D → Hst → Res D) (f : Ev) : Sm := fun en h => match en[i]? with
  | some (some x) => bindS (f en h) en fun y h1 => bindS (g x y h1) en fun z h2 => .nx (en.set i (some z)) h2
  | _ => .bad
section
variable {X : Cx} {W : WX} {o i e : Expr} {pos pos' : Pos} {fo fi fv fe : Ev}
theorem ss_setIx (hu : X.A.units + 1 < cLine) (ho : SE X W o fo) (hi : SE X W i fi) (hv : SE X W e fv) (hs : swapsWithSole [.Subscript o i pos'] e pos.line X.env = pure false := by rfl) (hw : swappedStores [.Subscript o i pos'] e X.env = pure none := by rfl)
    (h1 : (assignEach [.Subscript o i pos'] X.env).map (·.2) = [assign (.Subscript o i pos') X.env] := by rfl)
    (ha : ∀ v, assign (.Subscript o i pos') X.env v = (do
      let ov ← holding [v] (eval o X.env)
      let iv ← holding [v, ov] (eval i X.env)
      standAt pos'
      holding [v, ov, iv] (setItem ov iv v)
      release [v, ov, iv] []) := by intro _; rfl) : SS X W (.Assign [.Subscript o i pos'] e pos) (sIx fo fi fv) :=
  viaS (ps_asg hv (pg_sub ho hi (set_M hu) ha) hs hw h1) fun D σ H ⟨m, en, h, R, E, p⟩ => ⟨m, en, h, R, E, Po.imp (PoS.bind (rel := RD X.K) E p) fun v H1 ⟨m1, d, h1, x1, R1, r1, E1, p1⟩ =>
    ⟨m1, en, h1, R1, E1, Po.imp (PoS.bind (rel := RD X.K) E1 p1) fun ov H2 ⟨m2, od, h2, x2, R2, r2, E2, p2⟩ =>
    ⟨m2, en, h2, R2, E2, Po.imp (PoS.bind (rel := RD X.K) E2 p2) fun iv H3 ⟨m3, id, h3, x3, R3, r3, E3, p3⟩ => by
      split at p3
      · rename_i h4 e4
        exact setD_ok R3 (r2.mono x3) r3 (r1.mono (x2.trans x3).e) e4 fun H4 x4 R4 => p3 m3 H4 _ x4 R4 (E3.mono x4)
      · exact p3.elim⟩⟩⟩
theorem ss_aug {j : Nat} {x : Str} {op : Operator} {r : R2} {g : D → D → Hst → Res D} (hN : X.N.Nodup) (ho : OpR X (inplaceOp op) r) (hg : Vop X.K r g) (he : SE X W e fe) (hi : X.N[j]? = some x := by rfl) (hx : Loc X.env.scope x := by first | exact Or.inl rfl | exact Or.inr rfl)
    (hf : X.fn x = true ∨ X.env.scope.names.lookup x = some .local := by first | exact .inl rfl | exact .inr rfl) : SS X W (.AugAssign (.Name x pos') op e pos) (sAug j g fe) :=
  viaS (ps_aug (i := j) (ti := r) hN hi hx he ho hf) fun D σ H ⟨m, en, h, R, E, p⟩ => by
    unfold sAug at p
    split at p
    · rename_i d ed
      obtain ⟨v, ev, rv⟩ := E.2 j d ed
      refine ⟨v, ev, m, en, h, R, E, Po.imp (PoS.bind (rel := RD X.K) E p) fun y H1 ⟨m1, d1, h1, x1, R1, r1, E1, p1⟩ => ?_⟩
      refine hg W m1 H1 h1 d d1 v y σ _ R1 (rv.mono x1) r1 (Po.imp (PoS.bind (rel := RD X.K) E1 p1) fun z H2 ⟨m2, d2, h2, x2, R2, r2, E2, p2⟩ => ps_nx R2 (E2.set r2 j) p2)
    · exact p.elim
end
/-! ### x op= y of ints and texts; is None -/
def addS (x y : D) (h : Hst) : Res D := match x, y with
  | .int i, .int j => .ok (.int (i + j)) h
  | .str s, .str t => if s.length + t.length ≤ 16777216 then .ok (.str (s ++ t)) h else .bad
  | _, _ => .bad
def rAddS : R2 := fun x y H Q => (rI0 (fun i j => .int (i + j))) x y H Q ∨ (∃ i j, x = .str i ∧ y = .str j ∧ i.length + j.length ≤ sizeLine ∧ Q (.str (i ++ j)) H)
theorem iop_addS {X : Cx} : OpR X (inplaceOp .Add) rAddS := iop_add.or iop_add_str
theorem vop_addS {K : PySem.W.Frag} : Vop K rAddS addS := by
  intro W m H h x y v u σ Q R rx ry p
  unfold addS at p
  split at p
  · cases rx; cases ry; exact .inl ⟨_, _, rfl, rfl, p_int R p⟩
  · obtain ⟨hl, p⟩ := p_if p
    cases rx with
    | str bx =>
      cases ry with
      | str by' => exact .inr ⟨_, _, rfl, rfl, by rw [str_len, str_len, sl_eq]; exact hl, by rw [str_app]; exact po_ok p R (.str (bx.app by' hl))⟩
  · exact p.elim
def isND (x y : D) (h : Hst) : Res D := match y with
  | .non => .ok (.bl (decide (x = .non))) h
  | _ => .bad
def notND (x y : D) (h : Hst) : Res D := match y with
  | .non => .ok (.bl (!decide (x = .non))) h
  | _ => .bad
theorem non_rel {K : PySem.W.Frag} {m : List Addr} {H : Hp} {x : D} {v : V} (r : RD K m H x v) : decide (v = .non) = decide (x = .non) := by
  cases r <;> simp
theorem vop_isN {K : PySem.W.Frag} : Vop K (fun x y H Q => y = .non ∧ Q (.bl (decide (x = .non))) H) isND := by
  intro W m H h x y v u σ Q R rx ry p
  unfold isND at p
  split at p
  · cases ry; exact ⟨rfl, by rw [non_rel rx]; exact p_bl R p⟩
  · exact p.elim
theorem vop_notN {K : PySem.W.Frag} : Vop K (fun x y H Q => y = .non ∧ Q (.bl (!decide (x = .non))) H) notND := by
  intro W m H h x y v u σ Q R rx ry p
  unfold notND at p
  split at p
  · cases ry; exact ⟨rfl, by rw [non_rel rx]; exact p_bl R p⟩
  · exact p.elim

/-! ### the law's end -/
theorem noCX {P : Program} {w : World} {outer : List Env} {H : Hp} {s s' : Shared} {e : Value} (h : L2.CX P w outer H s (fun _ _ _ => False) e s') : False := by
  obtain ⟨_, _, _, _, _, _, _, _, _, _, _, _, z⟩ := h
  exact z
theorem fun_uniq {K : PySem.W.Frag} {x qual : Str} {params : Arguments} {body : List Stmt} {scope : Scope} {dvs : List V} {kws : List (Str × V)} {f : Addr} {fd fd' : FuncData}
    (a : FunD K x qual params body scope dvs kws f fd) (b : FunD K x qual params body scope dvs kws f fd') : fd = fd' := by
  obtain ⟨oc, od, dV, kV, doc, pm, an, cdv, ct, osl, _, l, _⟩ := a.ex
  obtain ⟨oc', od', dV', kV', doc', pm', an', cdv', ct', osl', _, l', _⟩ := b.ex
  rw [l] at l'
  injection l' with l'
  injection l' with _ _ l' _
  injection l'
/-- the law gives True: from a run of the small language for every script -/
theorem law_ok {P : Program} {w : World} {K : PySem.W.Frag} {mg : Str → Option Value} {n : Nat} {d : He.DefD} {fd : FuncData} {F : Nat → List D → Hst → Res D}
    (hF : FunD K d.name d.qual d.params d.body d.scope (d.dvs K) (d.kws K) (He.fAd K d.at_) fd) (all : ∀ (base : Heap) (g : Nat), FnM P w K mg base n d ["script"] (F g)) (hn : n = 230)
    (run : ∀ ns : List Int, ns.length ≤ 63 → ∃ g h, F g [.sl (ns.map .int)] [] = .ok (.bl true) h) :
    ∃ sp : Sp, (∀ (H : Hp) (a : Addr) (ns : List Int), ns.length ≤ 63 → L2.Only H → SqL K H a (ns.map V.int) → sp [.ref a] H (fun v _ => v = .bl true) fun _ _ _ => False) ∧
      ∀ base : Heap, FnOk P w K mg base CX0 230 (He.fAd K d.at_) fd ["script"] sp := by
  subst hn
  refine ⟨fun vs H Q _ => ∃ g, spM K 1 (F g) vs H Q (fun _ _ _ => False), fun H a ns hl hO hS => ?_, fun base => ⟨fun vs H Q E ⟨g, m, h, ds, _, rs, hl, _⟩ => by rw [← rs.length, hl]; rfl, fun A outer s H args us vs Q E hr he hb hv ⟨g, hs⟩ => ?_⟩⟩
  · obtain ⟨g, h, e⟩ := run ns hl
    have hi : SqI K H a (ns.map V.int) := by
      rcases hS with (q | q) | q
      · rcases hO a with z | ⟨o, xs, z⟩
        · rw [z] at q; cases q
        · rw [z] at q; cases q
      · exact .inl q
      · exact .inr q
    have rs : ∀ l : List Int, RDs K [] H (l.map D.int) (l.map V.int) := fun l => by
      induction l with
      | nil => exact .nil
      | cons x l ih => exact .cons (.int x) ih
    refine ⟨g, [], [], [.sl (ns.map .int)], ⟨rfl, List.nodup_nil, fun n o e => by simp at e⟩, .cons (.sl (by rw [List.length_map, sl_eq]; omega) hi (rs ns)) .nil, rfl, ?_⟩
    rw [e]
    intro m' H' b x R r
    cases r
    rfl
  · obtain ⟨fd', hF', ok, _⟩ := (all base g).ex
    cases fun_uniq hF hF'
    refine codeAny_mono (ok.run A outer s H args us vs Q (fun _ _ _ => False) hr he hb hv hs) fun r s' h => ?_
    cases r with
    | error e => exact noCX h
    | ok f =>
      cases f with
      | ret u => exact h
      | next => exact h
      | brk => exact h
      | cont => exact h
end Mi

namespace Mi
open PySem PySem.Spec PyProof.Rows L2

/-! ### runs, step by step -/
@[simp] theorem bind_ok {α β : Type} (a : α) (h : Hst) (f : α → Hst → Res β) : (Res.ok a h).bind f = f a h := (rfl)
@[simp] theorem bind_bad {α β : Type} (f : α → Hst → Res β) : (Res.bad : Res α).bind f = .bad := (rfl)
@[simp] theorem bind_err {α β : Type} (x : Ex) (h : Hst) (f : α → Hst → Res β) : (Res.err x h : Res α).bind f = .err x h := (rfl)
@[simp] theorem bindS_ok {α : Type} (a : α) (h : Hst) (en : En) (k : α → Hst → SR) : bindS (.ok a h) en k = k a h := (rfl)
@[simp] theorem bindS_err {α : Type} (x : Ex) (h : Hst) (en : En) (k : α → Hst → SR) : bindS (.err x h : Res α) en k = .err x en h := (rfl)
@[simp] theorem asB_bl (b : Bool) (h : Hst) : asB (.ok (.bl b) h) = .ok b h := (rfl)
@[simp] theorem thenS_nx (en : En) (h : Hst) (k : Sm) : thenS (.nx en h) k = k en h := (rfl)
@[simp] theorem thenS_rt (d : D) (h : Hst) (k : Sm) : thenS (.rt d h) k = .rt d h := (rfl)
@[simp] theorem thenS_err (x : Ex) (en : En) (h : Hst) (k : Sm) : thenS (.err x en h) k = .err x en h := (rfl)
@[simp] theorem thenS_bk (en : En) (h : Hst) (k : Sm) : thenS (.bk en h) k = .bk en h := (rfl)
@[simp] theorem thenS_ct (en : En) (h : Hst) (k : Sm) : thenS (.ct en h) k = .ct en h := (rfl)
@[simp] theorem vVar_ap (i : Nat) (en : En) (h : Hst) : vVar i en h = match en[i]? with | some (some d) => .ok d h | _ => .bad := (rfl)
@[simp] theorem vC_ap (d : D) (en : En) (h : Hst) : vC d en h = .ok d h := (rfl)
@[simp] theorem vB_ap (g : D → D → Hst → Res D) (fa fb : Ev) (en : En) (h : Hst) : vB g fa fb en h = (fa en h).bind fun x h1 => (fb en h1).bind fun y h2 => g x y h2 := (rfl)
@[simp] theorem vU_ap (g : D → Hst → Res D) (f : Ev) (en : En) (h : Hst) : vU g f en h = (f en h).bind fun x h1 => g x h1 := (rfl)
@[simp] theorem vCh_ap (g g' : D → D → Hst → Res D) (fa fb fc : Ev) (en : En) (h : Hst) : vCh g g' fa fb fc en h = (fa en h).bind fun x h1 => (fb en h1).bind fun y h2 => (asB (g x y h2)).bind fun k h3 => match k with
    | true => (fc en h3).bind fun z h4 => g' y z h4
    | false => .ok (.bl false) h3 := (rfl)
@[simp] theorem tV_ap (f : Ev) (en : En) (h : Hst) : tV f en h = asB (f en h) := (rfl)
@[simp] theorem tTru_ap (f : Ev) (en : En) (h : Hst) : tTru f en h = (f en h).bind fun d h1 => truD d h1 := (rfl)
@[simp] theorem tNotE_ap (f : EvT) (en : En) (h : Hst) : tNotE f en h = (f en h).bind fun b h1 => .ok (!b) h1 := (rfl)
@[simp] theorem tAndE_ap (f g : EvT) (en : En) (h : Hst) : tAndE f g en h = (f en h).bind fun b h1 => match b with | true => g en h1 | false => .ok false h1 := (rfl)
@[simp] theorem tOrE_ap (f g : EvT) (en : En) (h : Hst) : tOrE f g en h = (f en h).bind fun b h1 => match b with | true => .ok true h1 | false => g en h1 := (rfl)
@[simp] theorem vAnd_ap (f g : Ev) (en : En) (h : Hst) : vAnd f g en h = (f en h).bind fun d h1 => (truD d h1).bind fun b h2 => match b with | true => g en h2 | false => .ok d h2 := (rfl)
@[simp] theorem vOr_ap (f g : Ev) (en : En) (h : Hst) : vOr f g en h = (f en h).bind fun d h1 => (truD d h1).bind fun b h2 => match b with | true => .ok d h2 | false => g en h2 := (rfl)
@[simp] theorem vNot_ap (f : Ev) (en : En) (h : Hst) : vNot f en h = (f en h).bind fun d h1 => (truD d h1).bind fun b h2 => .ok (.bl (!b)) h2 := (rfl)
@[simp] theorem vIf_ap (t : EvT) (f g : Ev) (en : En) (h : Hst) : vIf t f g en h = (t en h).bind fun b h1 => match b with | true => f en h1 | false => g en h1 := (rfl)
@[simp] theorem aNil_ap (en : En) (h : Hst) : aNil en h = .ok [] h := (rfl)
@[simp] theorem aCons_ap (f : Ev) (g : Evs) (en : En) (h : Hst) : aCons f g en h = (f en h).bind fun d h1 => (g en h1).bind fun ds h2 => .ok (d :: ds) h2 := (rfl)
@[simp] theorem vTup_ap (f : Evs) (en : En) (h : Hst) : vTup f en h = (f en h).bind fun ds h1 => if ds.length ≤ 16777216 then .ok (.tup ds) h1 else .bad := (rfl)
@[simp] theorem vLst_ap (f : Evs) (en : En) (h : Hst) : vLst f en h = (f en h).bind fun ds h1 => if ds.length ≤ 16777216 then .ok (.ref h1.length) (h1 ++ [.lst ds]) else .bad := (rfl)
@[simp] theorem oN_ap (en : En) (h : Hst) : oN en h = .ok none h := (rfl)
@[simp] theorem oS_ap (f : Ev) (en : En) (h : Hst) : oS f en h = (f en h).bind fun d h1 => match d with | .int i => .ok (some i) h1 | _ => .bad := (rfl)
@[simp] theorem vSl_ap (f : Ev) (l u : EvO) (en : En) (h : Hst) : vSl f l u en h = (f en h).bind fun x h1 => (l en h1).bind fun a h2 => (u en h2).bind fun b h3 => slD x a b h3 := (rfl)
@[simp] theorem vCall_ap (g : List D → Hst → Res D) (f : Evs) (en : En) (h : Hst) : vCall g f en h = (f en h).bind fun ds h1 => g ds h1 := (rfl)
@[simp] theorem vIsi_ap (Ts : List PT) (f : Ev) (en : En) (h : Hst) : vIsi Ts f en h = (f en h).bind fun x h1 => match tyD x h1 with | some t => .ok (.bl (Ts.any fun T => isTy t T)) h1 | none => .bad := (rfl)
@[simp] theorem vM_ap (T : PT) (g : D → List D → Hst → Res D) (fo : Ev) (fa : Evs) (en : En) (h : Hst) : vM T g fo fa en h = (fo en h).bind fun x h1 => if tyD x h1 = some T then (fa en h1).bind fun ds h2 => g x ds h2 else .bad := (rfl)
@[simp] theorem vF_ap (np : Nat) (g : List D → Hst → Res D) (f : Evs) (en : En) (h : Hst) : vF np g f en h = (f en h).bind fun ds h1 => if ds.length = np then g ds h1 else .bad := (rfl)
@[simp] theorem sNil_ap (en : En) (h : Hst) : sNil en h = .nx en h := (rfl)
@[simp] theorem sSeq_ap (f g : Sm) (en : En) (h : Hst) : sSeq f g en h = thenS (f en h) g := (rfl)
@[simp] theorem sExpr_ap (f : Ev) (en : En) (h : Hst) : sExpr f en h = bindS (f en h) en fun _ h1 => .nx en h1 := (rfl)
@[simp] theorem sSet_ap (i : Nat) (f : Ev) (en : En) (h : Hst) : sSet i f en h = bindS (f en h) en fun d h1 => .nx (en.set i (some d)) h1 := (rfl)
@[simp] theorem sRet_ap (f : Ev) (en : En) (h : Hst) : sRet f en h = bindS (f en h) en fun d h1 => .rt d h1 := (rfl)
@[simp] theorem sRetN_ap (en : En) (h : Hst) : sRetN en h = .rt .non h := (rfl)
@[simp] theorem sIf_ap (t : EvT) (f g : Sm) (en : En) (h : Hst) : sIf t f g en h = bindS (t en h) en fun b h1 => match b with | true => f en h1 | false => g en h1 := (rfl)
@[simp] theorem sBrk_ap (en : En) (h : Hst) : sBrk en h = .bk en h := (rfl)
@[simp] theorem sCt_ap (en : En) (h : Hst) : sCt en h = .ct en h := (rfl)
@[simp] theorem gNm_ap (i : Nat) (d : D) (en : En) : gNm i d en = some (en.set i (some d)) := (rfl)
@[simp] theorem sAsg_ap (g : Tg) (f : Ev) (en : En) (h : Hst) : sAsg g f en h = bindS (f en h) en fun d h1 => match g d en with | some en' => .nx en' h1 | none => .bad := (rfl)
@[simp] theorem sAug_ap (i : Nat) (g : D → D → Hst → Res D) (f : Ev) (en : En) (h : Hst) : sAug i g f en h = match en[i]? with
  | some (some x) => bindS (f en h) en fun y h1 => bindS (g x y h1) en fun z h2 => .nx (en.set i (some z)) h2
  | _ => .bad := (rfl)
@[simp] theorem sIx_ap (fo fi fv : Ev) (en : En) (h : Hst) : sIx fo fi fv en h = bindS (fv en h) en fun v h1 => bindS (fo en h1) en fun o h2 => bindS (fi en h2) en fun i h3 => match setD o i v h3 with
  | some h4 => .nx en h4
  | none => .bad := (rfl)
@[simp] theorem iSeq_ap (f : Ev) (en : En) (h : Hst) : iSeq f en h = (f en h).bind fun d h1 => iterD d h1 := (rfl)
def rng1K (ds : List D) (h1 : Hst) : Res (List D × Chk) := match ds with
  | [.int j] => if -4611686018427387904 ≤ j ∧ j < 4611686018427387904 then .ok (rngD 0 j.toNat, none) h1 else .bad
  | _ => .bad
def rng2K (ds : List D) (h1 : Hst) : Res (List D × Chk) := match ds with
  | [.int i, .int j] => if -4611686018427387904 ≤ i ∧ i < 4611686018427387904 ∧ -4611686018427387904 ≤ j ∧ j < 4611686018427387904 then .ok (rngD i (j - i).toNat, none) h1 else .bad
  | _ => .bad
@[simp] theorem iRng1_ap (f : Evs) (en : En) (h : Hst) : iRng1 f en h = (f en h).bind rng1K := (rfl)
@[simp] theorem iRng2_ap (f : Evs) (en : En) (h : Hst) : iRng2 f en h = (f en h).bind rng2K := (rfl)
@[simp] theorem rng1K_int {j : Int} (h : Hst) (h1 : -4611686018427387904 ≤ j) (h2 : j < 4611686018427387904) : rng1K [.int j] h = .ok (rngD 0 j.toNat, none) h := by
  unfold rng1K
  exact if_pos ⟨h1, h2⟩
theorem rng1K_nat {j : Nat} (h : Hst) (h2 : j < 1000000000) : rng1K [.int j] h = .ok (rngD 0 j, none) h := rng1K_int h (by omega) (by omega)
theorem rng2K_int {i j : Int} (h : Hst) (h1 : -1000000000 ≤ i) (h2 : i < 1000000000) (h3 : -1000000000 ≤ j) (h4 : j < 1000000000) : rng2K [.int i, .int j] h = .ok (rngD i (j - i).toNat, none) h := by
  unfold rng2K
  exact if_pos ⟨by omega, by omega, by omega, by omega⟩
@[simp] theorem sFor_ap (f : EvI) (g : Tg) (b : Sm) (en : En) (h : Hst) : sFor f g b en h = match f en h with
  | .ok a h1 => forL a.2 g b a.1 en h1
  | .err x h1 => .err x en h1
  | .bad => .bad := (rfl)
@[simp] theorem vLc_ap (vs : List Nat) (i : EvI) (g : Tg) (t : EvT) (f : Ev) (en : En) (h : Hst) : vLc vs i g t f en h = match i en h with
  | .ok a h1 => (lcL a.2 g t f (wipeE en vs) a.1 [] h1).bind fun ds h2 => .ok (.ref h2.length) (h2 ++ [.lst ds])
  | .err x h1 => .err x h1
  | .bad => .bad := (rfl)
/-- the last object -/
@[simp] theorem get_app (h l : Hst) : (h ++ l)[h.length]? = l[0]? := by rw [List.getElem?_append_right (Nat.le_refl _), Nat.sub_self]
@[simp] theorem get_app2 (h l : Hst) (i : Nat) : (h ++ l)[h.length + i]? = l[i]? := by rw [List.getElem?_append_right (Nat.le_add_right _ _), Nat.add_sub_cancel_left]
theorem get_old {h l : Hst} {n : Nat} {o : O} (e : h[n]? = some o) : (h ++ l)[n]? = some o := by
  rw [List.getElem?_append_left (List.getElem?_eq_some_iff.mp e).1]; exact e
@[simp] theorem set_app (h l : Hst) (o : O) : (h ++ l).set h.length o = h ++ l.set 0 o := by
  rw [List.set_append, if_neg (Nat.lt_irrefl _), Nat.sub_self]
@[simp] theorem set_app2 (h l : Hst) (i : Nat) (o : O) : (h ++ l).set (h.length + i) o = h ++ l.set i o := by
  rw [List.set_append, if_neg (by omega), Nat.add_sub_cancel_left]
/-! ### loops: what holds between two turns -/
def SR.sat (r : SR) (N : En → Hst → Prop) (R : D → Hst → Prop) : Prop := match r with
  | .nx en h => N en h
  | .ct en h => N en h
  | .rt d h => R d h
  | _ => False
theorem forL_sat {chk : Chk} {g : Tg} {b : Sm} (R : D → Hst → Prop) : ∀ (items : List D) (I : Nat → En → Hst → Prop) (en : En) (h : Hst), I 0 en h →
    (∀ i en h, i ≤ items.length → I i en h → chk.ok h) → (∀ i x en h, items[i]? = some x → I i en h → ∃ en1, g x en = some en1 ∧ (b en1 h).sat (I (i + 1)) R) → (forL chk g b items en h).sat (I items.length) R
  | [], I, en, h, h0, hc, hs => by
    unfold forL
    rw [if_pos (hc 0 en h (Nat.le_refl _) h0)]
    exact h0
  | x :: xs, I, en, h, h0, hc, hs => by
    unfold forL
    rw [if_pos (hc 0 en h (Nat.zero_le _) h0)]
    obtain ⟨en1, e1, q⟩ := hs 0 x en h rfl h0
    rw [e1]
    dsimp only
    have go : ∀ en2 h2, I 1 en2 h2 → (forL chk g b xs en2 h2).sat (I (x :: xs).length) R := fun en2 h2 q =>
      forL_sat R xs (fun i => I (i + 1)) en2 h2 q (fun i en h hi => hc (i + 1) en h (by simp; omega)) fun i y en h hy => hs (i + 1) y en h (by simpa using hy)
    cases eb : b en1 h with
    | nx en2 h2 => rw [eb] at q; exact go en2 h2 q
    | ct en2 h2 => rw [eb] at q; exact go en2 h2 q
    | rt d h2 => rw [eb] at q; exact q
    | bk en2 h2 => rw [eb] at q; exact q.elim
    | err x en2 h2 => rw [eb] at q; exact q.elim
    | bad => rw [eb] at q; exact q.elim
theorem sat_nx {r : SR} {N : En → Hst → Prop} (h : r.sat N (fun _ _ => False)) (nc : ∀ en h, r ≠ .ct en h) : ∃ en h, r = .nx en h ∧ N en h := by
  cases r with
  | nx en h1 => exact ⟨en, h1, rfl, h⟩
  | ct en h1 => exact absurd rfl (nc en h1)
  | _ => exact h.elim
theorem forL_nc {chk : Chk} {g : Tg} {b : Sm} : ∀ (items : List D) (en en' : En) (h h' : Hst), forL chk g b items en h ≠ .ct en' h'
  | [], en, en', h, h' => by unfold forL; split <;> simp
  | x :: xs, en, en', h, h' => by
    unfold forL
    split
    · split
      · split <;> first | exact forL_nc _ _ _ _ _ | simp_all
      · simp
    · simp
/-- a loop that runs to its end -/
theorem forL_end {chk : Chk} {g : Tg} {b : Sm} (items : List D) (I : Nat → En → Hst → Prop) (en : En) (h : Hst) (h0 : I 0 en h)
    (hc : ∀ i en h, i ≤ items.length → I i en h → chk.ok h) (hs : ∀ i x en h, items[i]? = some x → I i en h → ∃ en1, g x en = some en1 ∧ (b en1 h).sat (I (i + 1)) fun _ _ => False) : ∃ en' h', forL chk g b items en h = .nx en' h' ∧ I items.length en' h' :=
  sat_nx (forL_sat _ items I en h h0 hc hs) fun en' h' => forL_nc items en en' h h'
/-- a comprehension whose element makes nothing -/
theorem lcL_map {chk : Chk} {g : Tg} {f : Ev} {en : En} {h : Hst} (hk : chk.ok h) {u : D → D} : ∀ (items acc : List D), acc.length + items.length ≤ 16777216 →
    (∀ x ∈ items, ∃ en1, g x en = some en1 ∧ f en1 h = .ok (u x) h) → lcL chk g tsN f en items acc h = .ok (acc ++ items.map u) h
  | [], acc, _, _ => by unfold lcL; rw [if_pos hk]; simp
  | x :: xs, acc, hl, hs => by
    obtain ⟨en1, e1, e2⟩ := hs x List.mem_cons_self
    have hl2 : acc.length + (xs.length + 1) ≤ 16777216 := by simpa using hl
    unfold lcL
    rw [if_pos hk, e1]
    dsimp only [tsN]
    rw [e2]
    dsimp only
    rw [if_pos (by omega), lcL_map hk xs (acc ++ [u x]) (by simp; omega) fun y hy => hs y (List.mem_cons_of_mem _ hy)]
    simp
end Mi

namespace Mi
open PySem PySem.Spec PyProof.Rows L2

/-! ### what the operations say of plain values -/
@[simp] theorem addD_int (i j : Int) (h : Hst) : addD (.int i) (.int j) h = .ok (.int (i + j)) h := (rfl)
@[simp] theorem addS_int (i j : Int) (h : Hst) : addS (.int i) (.int j) h = .ok (.int (i + j)) h := (rfl)
theorem addD_str {s t : List Nat} (h : Hst) (hl : s.length + t.length ≤ 16777216) : addD (.str s) (.str t) h = .ok (.str (s ++ t)) h := by simp [addD, hl]
@[simp] theorem subD_int (i j : Int) (h : Hst) : subD (.int i) (.int j) h = .ok (.int (i - j)) h := (rfl)
@[simp] theorem mulD_r (i j : Int) (h : Hst) (h1 : -18446744073709551616 < j) (h2 : j < 18446744073709551616) : mulD (.int i) (.int j) h = .ok (.int (i * j)) h := by simp [mulD, mulI, intG, okMul, h1, h2]
theorem mulD_l (i j : Int) (h : Hst) (h1 : -18446744073709551616 < i) (h2 : i < 18446744073709551616) : mulD (.int i) (.int j) h = .ok (.int (i * j)) h := by simp [mulD, mulI, intG, okMul, h1, h2]
@[simp] theorem divD_int (i j : Int) (h : Hst) (h1 : 0 < j) (h2 : j < 1073741824) : divD (.int i) (.int j) h = .ok (.int (i / j)) h := by simp [divD, intG, okDiv, h1, h2]
@[simp] theorem modD_int (i j : Int) (h : Hst) (h1 : 0 < j) : modD (.int i) (.int j) h = .ok (.int (i % j)) h := by simp [modD, intG, okMod, h1]
@[simp] theorem powD_lit (h : Hst) : powD (.int 10) (.int 18) h = .ok (.int 1000000000000000000) h := by simp [powD, intG, okPow]
@[simp] theorem ltD_int (i j : Int) (h : Hst) : ltD (.int i) (.int j) h = .ok (.bl (decide (i < j))) h := (rfl)
@[simp] theorem leD_int (i j : Int) (h : Hst) : leD (.int i) (.int j) h = .ok (.bl (decide (i ≤ j))) h := (rfl)
@[simp] theorem gtD_int (i j : Int) (h : Hst) : gtD (.int i) (.int j) h = .ok (.bl (decide (j < i))) h := (rfl)
@[simp] theorem geD_int (i j : Int) (h : Hst) : geD (.int i) (.int j) h = .ok (.bl (decide (j ≤ i))) h := (rfl)
@[simp] theorem negD_int (i : Int) (h : Hst) : negD (.int i) h = .ok (.int (-i)) h := (rfl)
@[simp] theorem eqD_int (i j : Int) (h : Hst) : eqD (.int i) (.int j) h = .ok (.bl (i == j)) h := (rfl)
@[simp] theorem eqD_bl (i j : Bool) (h : Hst) : eqD (.bl i) (.bl j) h = .ok (.bl (i == j)) h := (rfl)
@[simp] theorem eqD_str (i j : List Nat) (h : Hst) : eqD (.str i) (.str j) h = .ok (.bl (decide (i = j))) h := (rfl)
@[simp] theorem neD_int (i j : Int) (h : Hst) : neD (.int i) (.int j) h = .ok (.bl (!(i == j))) h := (rfl)
@[simp] theorem neD_bl (i j : Bool) (h : Hst) : neD (.bl i) (.bl j) h = .ok (.bl (!(i == j))) h := (rfl)
@[simp] theorem neD_str (i j : List Nat) (h : Hst) : neD (.str i) (.str j) h = .ok (.bl (!decide (i = j))) h := (rfl)
@[simp] theorem intC_int (i : Int) (h : Hst) : intC [.int i] h = .ok (.int i) h := (rfl)
@[simp] theorem intC_bl (k : Bool) (h : Hst) : intC [.bl k] h = .ok (.int (if k then 1 else 0)) h := (rfl)
@[simp] theorem absD_int (i : Int) (h : Hst) : absD [.int i] h = .ok (.int (if i < 0 then -i else i)) h := (rfl)
@[simp] theorem lenD_str (s : List Nat) (h : Hst) : lenD [.str s] h = .ok (.int s.length) h := (rfl)
@[simp] theorem lenD_tup (s : List D) (h : Hst) : lenD [.tup s] h = .ok (.int s.length) h := (rfl)
@[simp] theorem lenD_sl (s : List D) (h : Hst) : lenD [.sl s] h = .ok (.int s.length) h := (rfl)
theorem lenD_lst {n : Nat} {s : List D} {h : Hst} (e : h[n]? = some (.lst s)) : lenD [.ref n] h = .ok (.int s.length) h := by simp [lenD, e]
theorem strC_int {i : Int} (h : Hst) (e : i.natAbs < 1000000000000000000000000000000000000000000000000000000000000) : strC [.int i] h = .ok (.str (decI i)) h := if_pos e
@[simp] theorem truD_bl (b : Bool) (h : Hst) : truD (.bl b) h = .ok b h := (rfl)
theorem atI_nat {α : Type} (xs : List α) (k : Nat) : atI xs (k : Int) = xs[k]? := by
  unfold atI
  by_cases hk : k < xs.length
  · unfold ixN
    rw [if_pos (by omega), if_pos (by omega)]
    rfl
  · rw [List.getElem?_eq_none (by omega)]
    unfold ixN
    rw [if_pos (by omega), if_neg (by omega)]
    rfl
@[simp] theorem rngD_zero (i : Int) : rngD i 0 = [] := (rfl)
theorem rngD_at {lo : Int} {n i : Nat} (hi : i < n) : (rngD lo n)[i]? = some (.int (lo + i)) := by
  have e : i < (rngD lo n).length := by rw [rngD_len]; exact hi
  have := (rngD_get (List.getElem?_eq_getElem e)).2
  rw [List.getElem?_eq_getElem e, this]
/-- the answer of a function that makes one object and leaves the others -/
theorem finish_new (h : Hst) (o : O) (l : List O) (f : o.flat = true) : finish h (.ref h.length) (h ++ o :: l) = .ok (.ref h.length) (h ++ [o]) := by
  unfold finish
  rw [if_neg (by simp), if_pos (by simp)]
  dsimp only
  rw [if_neg (Nat.lt_irrefl _), get_app]
  simp [f]
theorem finish_newk (h : Hst) (l : List O) (k : Nat) (o : O) (e : l[k]? = some o) (f : o.flat = true) : finish h (.ref (h.length + k)) (h ++ l) = .ok (.ref h.length) (h ++ [o]) := by
  have hl : k < l.length := (List.getElem?_eq_some_iff.mp e).1
  unfold finish
  rw [if_neg (by simp; intro q; rw [q] at hl; simp at hl), if_pos (by simp)]
  dsimp only
  rw [if_neg (by omega), get_app2, e]
  simp [f]
@[simp] theorem finish_same (h : Hst) (d : D) : finish h d h = .ok d h := by
  unfold finish
  rw [if_pos rfl]
theorem finish_drop (h l : Hst) (d : D) (f : d.noRef = true) : finish h d (h ++ l) = .ok d h := by
  unfold finish
  split
  · rename_i e
    have : l = [] := by simpa using e
    subst this
    simp
  · rw [if_pos (by simp)]
    cases d <;> first | (simp [D.noRef] at f; done) | exact if_pos f
theorem noRefs_int : ∀ ds : List Int, D.noRefs (ds.map .int) = true
  | [] => rfl
  | d :: ds => by simp [D.noRefs, D.noRef, noRefs_int ds]
theorem noRefs_str : ∀ ds : List (List Nat), D.noRefs (ds.map .str) = true
  | [] => rfl
  | d :: ds => by simp [D.noRefs, D.noRef, noRefs_str ds]
theorem allFlat_str : ∀ ds : List (List Nat), (ds.map D.str).all flatD = true
  | [] => rfl
  | d :: ds => by
    rw [List.map_cons, List.all_cons, allFlat_str ds]; rfl

/-! ### the laws' small functions -/
def B_cell : Sm :=
    sSeq (sIf (tV (vB ltD (vVar 1) (vCall lenD (aCons (vVar 0) (aNil))))) (sRet (vB ixD (vVar 0) (vVar 1))) (sNil)) <|
    sRet (vC (.int 0))
theorem run_cell (ns : List Int) (k : Nat) (h : Hst) : runF 2 B_cell [.sl (ns.map .int), .int k] h = .ok (.int (ns.getD k 0)) h := by
  unfold runF B_cell
  by_cases hk : k < ns.length
  · simp [hk, ixD, atI_nat]
  · simp [hk]
theorem run_at (ns : List Int) (k a : Nat) (h : Hst) (e : h[a]? = some (.lst (ns.map .int))) : runF 2 B_cell [.ref a, .int k] h = .ok (.int (ns.getD k 0)) h := by
  unfold runF B_cell
  by_cases hk : k < ns.length
  · simp [hk, ixD, atI_nat, lenD_lst e, e]
  · simp [hk, lenD_lst e]
def B_digits (b : Int) : Sm :=
    sSeq (sSet 3 (vLst (aNil))) <|
    sSeq (sSet 4 (vCall absD (aCons (vVar 0) (aNil)))) <|
    sSeq (sIf (tV (vB geD (vVar 4) (vB powD (vC (.int 10)) (vC (.int 18))))) (sSeq (sFor (iRng1 (aCons (vVar 1) (aNil))) (gNm 5) (sIf (tV (vB gtD (vVar 4) (vC (.int 0)))) (sSeq (sExpr (vM .list appendM (vVar 3) (aCons (vB modD (vVar 4) (vC (.int b))) (aNil)))) <|
    sSet 4 (vB divD (vVar 4) (vC (.int b)))) (sNil))) <|
    sRet (vVar 3)) (sNil)) <|
    sSeq (sSet 6 (vB addD (vB addD (vB mulD (vVar 4) (vC (.int 48271))) (vB mulD (vVar 2) (vC (.int 69621)))) (vC (.int 12345)))) <|
    sSeq (sFor (iRng1 (aCons (vVar 1) (aNil))) (gNm 5) (sSeq (sSet 6 (vB modD (vCall intC (aCons (vB addD (vB addD (vB mulD (vVar 6) (vC (.int 48271))) (vC (.int 11))) (vVar 5)) (aNil))) (vC (.int 2147483647)))) <|
    sExpr (vM .list appendM (vVar 3) (aCons (vB modD (vB divD (vB modD (vCall intC (aCons (vB addD (vB mulD (vVar 6) (vC (.int 69621))) (vVar 2)) (aNil))) (vC (.int 2147483629))) (vC (.int 7))) (vC (.int b))) (aNil))))) <|
    sRet (vVar 3)
theorem appendM_at (h : Hst) (l : List D) (d : D) (hl : l.length < 16777216) : appendM (.ref h.length) [d] (h ++ [.lst l]) = .ok .non (h ++ [.lst (l ++ [d])]) := by
  unfold appendM
  dsimp only
  rw [get_app]
  simp [hl]
@[simp] theorem tyD_at (h : Hst) (l : List D) : tyD (.ref h.length) (h ++ [.lst l]) = some .list := by
  unfold tyD
  dsimp only
  rw [get_app]
  rfl
theorem range_get {lo : Int} {n i : Nat} {x : D} (e : (rngD lo n)[i]? = some x) : i < n ∧ x = .int (lo + i) := rngD_get e
theorem run_digits (b : Int) (hb : 0 < b) (hb2 : b < 1073741824) (c salt : Int) (many : Nat) (hm : many ≤ 1000000) (h : Hst) : ∃ ds : List Int, ds.length ≤ many ∧ (∀ d ∈ ds, 0 ≤ d ∧ d < b) ∧ runF 7 (B_digits b) [.int c, .int many, .int salt] h = .ok (.ref h.length) (h ++ [.lst (ds.map .int)]) := by
  unfold runF B_digits
  generalize hr : (if c < 0 then -c else c) = r
  have hmod : ∀ z : Int, 0 ≤ z % b ∧ z % b < b := fun z => ⟨Int.emod_nonneg _ (by omega), Int.emod_lt_of_pos _ hb⟩
  by_cases hc : (1000000000000000000 : Int) ≤ r
  · obtain ⟨en', h', e, x5, r', ds, h1, h2, h3, h4⟩ := forL_end (chk := none) (g := gNm 5) (b := sIf (tV (vB gtD (vVar 4) (vC (.int 0)))) (sSeq (sExpr (vM .list appendM (vVar 3) (aCons (vB modD (vVar 4) (vC (.int b))) (aNil)))) <|
      sSet 4 (vB divD (vVar 4) (vC (.int b)))) (sNil)) (rngD 0 many)
      (fun i en h' => ∃ (x5 : Option D) (r' : Int) (ds : List Int), en = [some (.int c), some (.int many), some (.int salt), some (.ref h.length), some (.int r'), x5, none] ∧ h' = h ++ [.lst (ds.map .int)] ∧ ds.length ≤ i ∧ ∀ d ∈ ds, 0 ≤ d ∧ d < b)
      [some (.int c), some (.int many), some (.int salt), some (.ref h.length), some (.int r), none, none] (h ++ [.lst []]) ⟨none, r, [], rfl, rfl, Nat.le_refl _, by simp⟩ (fun _ _ _ _ _ => trivial)
      (fun i x en h' hx ⟨x5, r', ds, h1, h2, h3, h4⟩ => by
        obtain ⟨hi, rfl⟩ := range_get hx
        subst h1 h2
        refine ⟨_, rfl, ?_⟩
        by_cases h0 : 0 < r'
        · simp [h0, hb, hb2, SR.sat]
          rw [appendM_at _ _ _ (by simp; omega)]
          simp [hb, hb2]
          refine ⟨ds ++ [r' % b], by simp, by simp; omega, ?_⟩
          intro d hd
          rcases List.mem_append.mp hd with hd | hd
          · exact h4 d hd
          · have : d = r' % b := by simpa using hd
            rw [this]; exact hmod _
        · simp [h0, SR.sat]
          exact ⟨ds, rfl, by omega, h4⟩)
    subst h1 h2
    rw [rngD_len] at h3
    refine ⟨ds, h3, h4, ?_⟩
    simp [hr, hc, rng1K_nat (j := many) _ (by omega), e]
    exact finish_new _ _ _ (by simp [O.flat, noRefs_int])
  · obtain ⟨en', h', e, x5, r', ds, h1, h2, h3, h4⟩ := forL_end (chk := none) (g := gNm 5) (b := (sSeq (sSet 6 (vB modD (vCall intC (aCons (vB addD (vB addD (vB mulD (vVar 6) (vC (.int 48271))) (vC (.int 11))) (vVar 5)) (aNil))) (vC (.int 2147483647)))) <|
    sExpr (vM .list appendM (vVar 3) (aCons (vB modD (vB divD (vB modD (vCall intC (aCons (vB addD (vB mulD (vVar 6) (vC (.int 69621))) (vVar 2)) (aNil))) (vC (.int 2147483629))) (vC (.int 7))) (vC (.int b))) (aNil))))) (rngD 0 many)
      (fun i en h' => ∃ (x5 : Option D) (r' : Int) (ds : List Int), en = [some (.int c), some (.int many), some (.int salt), some (.ref h.length), some (.int r), x5, some (.int r')] ∧ h' = h ++ [.lst (ds.map .int)] ∧ ds.length ≤ i ∧ ∀ d ∈ ds, 0 ≤ d ∧ d < b)
      [some (.int c), some (.int many), some (.int salt), some (.ref h.length), some (.int r), none, some (.int (r * 48271 + salt * 69621 + 12345))] (h ++ [.lst []]) ⟨none, _, [], rfl, rfl, Nat.le_refl _, by simp⟩ (fun _ _ _ _ _ => trivial)
      (fun i x en h' hx ⟨x5, r', ds, h1, h2, h3, h4⟩ => by
        obtain ⟨hi, rfl⟩ := range_get hx
        subst h1 h2
        refine ⟨_, rfl, ?_⟩
        simp [hb, hb2, SR.sat]
        rw [appendM_at _ _ _ (by simp; omega)]
        simp [hb, hb2]
        generalize (r' * 48271 + 11 + ↑i) % 2147483647 * 69621 + salt = z
        refine ⟨ds ++ [z % 2147483629 / 7 % b], by simp, by simp; omega, ?_⟩
        intro d hd
        rcases List.mem_append.mp hd with hd | hd
        · exact h4 d hd
        · have : d = z % 2147483629 / 7 % b := by simpa using hd
          rw [this]; exact hmod _)
    subst h1 h2
    rw [rngD_len] at h3
    refine ⟨ds, h3, h4, ?_⟩
    simp [hr, hc, rng1K_nat (j := many) _ (by omega), e]
    exact finish_new _ _ _ (by simp [O.flat, noRefs_int])
/-- the number at a place, or 0 -/
def atZ (xs : List Int) (k : Int) : Int := xs.getD k.toNat 0
theorem run_cellI (ns : List Int) (k : Int) (hk : 0 ≤ k) (h : Hst) : runF 2 B_cell [.sl (ns.map .int), .int k] h = .ok (.int (atZ ns k)) h := by
  have := run_cell ns k.toNat h
  rwa [Int.toNat_of_nonneg hk] at this
theorem run_atI (ns : List Int) (k : Int) (hk : 0 ≤ k) (a : Nat) (h : Hst) (e : h[a]? = some (.lst (ns.map .int))) : runF 2 B_cell [.ref a, .int k] h = .ok (.int (atZ ns k)) h := by
  have := run_at ns k.toNat a h e
  rwa [Int.toNat_of_nonneg hk] at this
/-! ### more loops -/
theorem lcL_sat {chk : Chk} {g : Tg} {t : EvT} {f : Ev} {en : En} : ∀ (items : List D) (I : Nat → List D → Hst → Prop) (acc : List D) (h : Hst), I 0 acc h → (∀ i acc h, i ≤ items.length → I i acc h → chk.ok h) →
    (∀ i x acc h, items[i]? = some x → I i acc h → ∃ en1, g x en = some en1 ∧ ((∃ h1, t en1 h = .ok false h1 ∧ I (i + 1) acc h1) ∨ ∃ h1 d h2, t en1 h = .ok true h1 ∧ f en1 h1 = .ok d h2 ∧ acc.length < 16777216 ∧ I (i + 1) (acc ++ [d]) h2)) →
    ∃ ds h', lcL chk g t f en items acc h = .ok ds h' ∧ I items.length ds h'
  | [], I, acc, h, h0, hc, hs => ⟨acc, h, by unfold lcL; rw [if_pos (hc 0 _ _ (Nat.le_refl _) h0)], h0⟩
  | x :: xs, I, acc, h, h0, hc, hs => by
    have go : ∀ acc2 h2, I 1 acc2 h2 → ∃ ds h', lcL chk g t f en xs acc2 h2 = .ok ds h' ∧ I (x :: xs).length ds h' := fun acc2 h2 q =>
      lcL_sat xs (fun i => I (i + 1)) acc2 h2 q (fun i a h hi => hc (i + 1) a h (by simp; omega)) fun i y a h hy => hs (i + 1) y a h (by simpa using hy)
    unfold lcL
    rw [if_pos (hc 0 _ _ (Nat.zero_le _) h0)]
    obtain ⟨en1, e1, q | q⟩ := hs 0 x acc h rfl h0
    · obtain ⟨h1, e2, q⟩ := q
      rw [e1]; dsimp only; rw [e2]; exact go _ _ q
    · obtain ⟨h1, d, h2, e2, e3, hl, q⟩ := q
      rw [e1]; dsimp only; rw [e2]; dsimp only; rw [e3]; dsimp only; rw [if_pos hl]; exact go _ _ q
/-- a walk that gives up at the first item that fails -/
theorem forL_all {chk : Chk} {g : Tg} {b : Sm} {r : D} {h : Hst} (hc : chk.ok h) : ∀ (items : List D) (p : Nat → Bool) (I : En → Prop) (en : En), I en →
    (∀ i x en, items[i]? = some x → I en → ∃ en1, g x en = some en1 ∧ if p i = true then ∃ en2, b en1 h = .nx en2 h ∧ I en2 else b en1 h = .rt r h) →
    ((∀ i, i < items.length → p i = true) → ∃ en', forL chk g b items en h = .nx en' h ∧ I en') ∧ ((∃ i, i < items.length ∧ p i = false) → forL chk g b items en h = .rt r h)
  | [], p, I, en, h0, hs => ⟨fun _ => ⟨en, by unfold forL; rw [if_pos hc], h0⟩, fun ⟨i, hi, _⟩ => absurd hi (Nat.not_lt_zero _)⟩
  | x :: xs, p, I, en, h0, hs => by
    obtain ⟨en1, e1, q⟩ := hs 0 x en rfl h0
    unfold forL
    rw [if_pos hc, e1]
    dsimp only
    by_cases hp : p 0 = true
    · rw [if_pos hp] at q
      obtain ⟨en2, e2, q⟩ := q
      rw [e2]
      dsimp only
      have go := forL_all hc xs (fun i => p (i + 1)) I en2 q fun i y en hy => hs (i + 1) y en (by simpa using hy)
      refine ⟨fun ha => go.1 fun i hi => ha (i + 1) (by simp; omega), fun ⟨i, hi, hf⟩ => ?_⟩
      cases i with
      | zero => rw [hp] at hf; cases hf
      | succ i => exact go.2 ⟨i, by simpa using hi, hf⟩
    · rw [if_neg hp] at q
      rw [q]
      exact ⟨fun ha => absurd (ha 0 (by simp)) hp, fun _ => rfl⟩
theorem whileL_run {t : EvT} {b : Sm} : ∀ (N g : Nat) (I : Nat → En → Hst → Prop) (en : En) (h : Hst), N < g → I 0 en h →
    (∀ i en h, i < N → I i en h → t en h = .ok true h ∧ ∃ en' h', b en h = .nx en' h' ∧ I (i + 1) en' h') → (∀ en h, I N en h → t en h = .ok false h) → ∃ en' h', whileL t b g en h = .nx en' h' ∧ I N en' h'
  | _, 0, _, _, _, hg, _, _, _ => absurd hg (Nat.not_lt_zero _)
  | 0, g + 1, I, en, h, hg, h0, hs, he => ⟨en, h, by unfold whileL; rw [he en h h0]; rfl, h0⟩
  | N + 1, g + 1, I, en, h, hg, h0, hs, he => by
    obtain ⟨e1, en', h', e2, q⟩ := hs 0 en h (Nat.succ_pos _) h0
    unfold whileL
    rw [e1]
    dsimp only [bindS]
    rw [e2]
    exact whileL_run N g (fun i => I (i + 1)) en' h' (Nat.lt_of_succ_lt_succ hg) q (fun i en h hi => hs (i + 1) en h (Nat.succ_lt_succ hi)) he
/-! ### numbers as texts -/
theorem decI_nat (k : Nat) : decI (k : Int) = (Nat.toDigits 10 k).map Char.toNat := by
  unfold decI
  have : toString (k : Int) = Nat.repr k := rfl
  rw [this]
  simp [Nat.repr]
theorem map_inj {α β : Type} {f : α → β} (hf : ∀ a b, f a = f b → a = b) : ∀ {l m : List α}, l.map f = m.map f → l = m
  | [], [], _ => rfl
  | [], _ :: _, e => by simp at e
  | _ :: _, [], e => by simp at e
  | a :: l, b :: m, e => by
    simp only [List.map_cons, List.cons.injEq] at e
    rw [hf _ _ e.1, map_inj hf e.2]
theorem decI_inj {i j : Nat} (e : decI i = decI j) : i = j := by
  rw [decI_nat, decI_nat] at e
  have := map_inj (fun a b => Char.toNat_inj.mp) e
  rw [← Nat.ofDigitChars_ten_toDigits (n := i), this, Nat.ofDigitChars_ten_toDigits]
theorem decI_lenN {i : Nat} (h : i < 1000000000000) : (decI i).length ≤ 62 := decI_len (Nat.lt_trans (by simpa using h) (by decide))
theorem strC_nat {i : Nat} (h : Hst) (e : i < 1000000000000) : strC [.int i] h = .ok (.str (decI i)) h := strC_int h (Nat.lt_trans (by simpa using e) (by decide))
/-! ### lists of texts -/
theorem atI_map {α β : Type} (f : α → β) (xs : List α) (i : Int) : atI (xs.map f) i = (atI xs i).map f := by
  unfold atI
  rw [List.length_map]
  cases ixN xs.length i <;> simp
theorem atI_ex {α : Type} {xs : List α} {i : Int} (h0 : 0 ≤ i) (h1 : i < xs.length) : ∃ x ∈ xs, atI xs i = some x := by
  have e : i.toNat < xs.length := by omega
  refine ⟨xs[i.toNat], List.getElem_mem e, ?_⟩
  have := atI_nat xs i.toNat
  rw [Int.toNat_of_nonneg h0] at this
  rw [this, List.getElem?_eq_getElem e]
theorem cutL_map {α β : Type} (f : α → β) (xs : List α) (lo hi : Option Int) : cutL (xs.map f) lo hi = (cutL xs lo hi).map f := by
  unfold cutL
  rw [List.length_map, List.map_take, List.map_drop]

@[simp] theorem slD_ref {n : Nat} {xs : List D} {h : Hst} (lo hi : Option Int) (e : h[n]? = some (.lst xs)) : slD (.ref n) lo hi h = .ok (.ref h.length) (h ++ [.lst (cutL xs lo hi)]) := by simp [slD, e]
theorem finish_bl (h h' : Hst) (b : Bool) : ∃ h2, finish h (.bl b) h' = .ok (.bl b) h2 := by
  unfold finish
  split
  · exact ⟨_, rfl⟩
  · split
    · exact ⟨_, rfl⟩
    · exact ⟨_, rfl⟩
theorem anyEq_str (ts : List (List Nat)) (s : List Nat) : (ts.map D.str).any (fun z => eqF z (.str s)) = ts.contains s := by
  induction ts with
  | nil => rfl
  | cons t ts ih =>
    rw [List.map_cons, List.any_cons, ih, List.contains_cons]
    congr 1
    simp only [eqF]
    by_cases e : t = s
    · subst e; simp
    · have e2 : ¬ s = t := fun x => e x.symm
      simp [e, e2]
theorem nin_lst {n : Nat} {ts : List (List Nat)} {h : Hst} (s : List Nat) (e : h[n]? = some (.lst (ts.map .str))) : ninD (.str s) (.ref n) h = .ok (.bl (!ts.contains s)) h := by
  unfold ninD inB
  dsimp only
  rw [e]
  dsimp only
  rw [if_pos ⟨rfl, allFlat_str ts⟩, anyEq_str]
theorem nin_tup (ts : List (List Nat)) (s : List Nat) (h : Hst) : ninD (.str s) (.tup (ts.map .str)) h = .ok (.bl (!ts.contains s)) h := by
  unfold ninD inB
  dsimp only
  rw [if_pos ⟨rfl, allFlat_str ts⟩, anyEq_str]
@[simp] theorem nin_str (c : Nat) (s : List Nat) (h : Hst) : ninD (.str [c]) (.str s) h = .ok (.bl (!decide (c ∈ s))) h := (rfl)
@[simp] theorem in_str (c : Nat) (s : List Nat) (h : Hst) : inD (.str [c]) (.str s) h = .ok (.bl (decide (c ∈ s))) h := (rfl)
theorem atZ_mem {xs : List Int} {k : Int} : atZ xs k ∈ xs ∨ atZ xs k = 0 := by
  unfold atZ
  by_cases e : k.toNat < xs.length
  · exact .inl (by rw [List.getD_eq_getElem?_getD, List.getElem?_eq_getElem e]; exact List.getElem_mem e)
  · exact .inr (by rw [List.getD_eq_getElem?_getD, List.getElem?_eq_none (by omega)]; rfl)
theorem ixD_str {s : List Nat} {i : Int} {c : Nat} (h : Hst) (e : atI s i = some c) : ixD (.str s) (.int i) h = .ok (.str [c]) h := by simp [ixD, e]
theorem ixD_lst {n : Nat} {s : List D} {i : Int} {d : D} {h : Hst} (e : h[n]? = some (.lst s)) (e2 : atI s i = some d) : ixD (.ref n) (.int i) h = .ok d h := by simp [ixD, e, e2]
theorem ixD_tup {s : List D} {i : Int} {d : D} (h : Hst) (e : atI s i = some d) : ixD (.tup s) (.int i) h = .ok d h := by simp [ixD, e]
theorem tyD_lst {n : Nat} {s : List D} {h : Hst} (e : h[n]? = some (.lst s)) : tyD (.ref n) h = some .list := by simp [tyD, e]
@[simp] theorem listC_ref {n : Nat} {s : List D} {h : Hst} (e : h[n]? = some (.lst s)) : listC [.ref n] h = .ok (.ref h.length) (h ++ [.lst s]) := by simp [listC, e]
@[simp] theorem listC_sl (s : List D) (h : Hst) : listC [.sl s] h = .ok (.ref h.length) (h ++ [.lst s]) := (rfl)
@[simp] theorem listC_tup (s : List D) (h : Hst) : listC [.tup s] h = .ok (.ref h.length) (h ++ [.lst s]) := (rfl)
@[simp] theorem tupC_ref {n : Nat} {s : List D} {h : Hst} (e : h[n]? = some (.lst s)) : tupC [.ref n] h = .ok (.tup s) h := by simp [tupC, e]
theorem appendM_ref {n : Nat} {l : List D} {h : Hst} (d : D) (e : h[n]? = some (.lst l)) (hl : l.length < 16777216) : appendM (.ref n) [d] h = .ok .non (h.set n (.lst (l ++ [d]))) := by
  unfold appendM
  dsimp only
  rw [e]
  exact if_pos hl
theorem addD_ref {a b : Nat} {xs ys : List D} {h : Hst} (ha : h[a]? = some (.lst xs)) (hb : h[b]? = some (.lst ys)) (hl : xs.length + ys.length ≤ 16777216) : addD (.ref a) (.ref b) h = .ok (.ref h.length) (h ++ [.lst (xs ++ ys)]) := by
  unfold addD
  dsimp only
  rw [ha, hb]
  exact if_pos hl
@[simp] theorem iterD_ref {n : Nat} {s : List D} {h : Hst} (e : h[n]? = some (.lst s)) : iterD (.ref n) h = .ok (s, some (n, s)) h := by simp [iterD, e]
@[simp] theorem iterD_sl (s : List D) (h : Hst) : iterD (.sl s) h = .ok (s, none) h := (rfl)
@[simp] theorem iterD_tup (s : List D) (h : Hst) : iterD (.tup s) h = .ok (s, none) h := (rfl)
@[simp] theorem iterD_str (s : List Nat) (h : Hst) : iterD (.str s) h = .ok (signs s, none) h := (rfl)
theorem str_list : ∀ l : List D, (∀ d ∈ l, ∃ s, d = .str s) → ∃ ss : List (List Nat), l = ss.map .str
  | [], _ => ⟨[], rfl⟩
  | d :: l, h => by
    obtain ⟨s, rfl⟩ := h d (by simp)
    obtain ⟨ss, rfl⟩ := str_list l fun d hd => h d (by simp [hd])
    exact ⟨s :: ss, rfl⟩
end Mi

set_option profiler true
set_option profiler.threshold 1000
namespace Mi
open PySem PySem.Spec PyProof.Rows L2
/-! ### the text -/
def tp (i : Nat) : Stmt := PySem.Challenge.pw_drawnonce_k00_fresh_names.main.body.getD i (.Pass ⟨0, 0, 0, 0⟩)
inductive FN where
  | is_name | fresh_names | l_cell | l_at | l_same | l_digits | l_string | l_word | l_named | l_fresh | f_law
  deriving DecidableEq
namespace Run
def b_is_name (c : FN → List D → Hst → Res D) (g : Nat) : Sm :=
    sSeq (sIf (tOrE (tNotE (tV (vCh leD leD (vC (.int 1)) (vCall lenD (aCons (vVar 0) (aNil))) (vC (.int 8))))) (tV (vB ninD (vB ixD (vVar 0) (vC (.int 0))) (vC (.str [97, 98, 99, 100, 101, 102, 103, 104, 105, 106, 107, 108, 109, 110, 111, 112, 113, 114, 115, 116, 117, 118, 119, 120, 121, 122]))))) (sRet (vC (.bl false))) (sNil)) <|
    sSeq (sFor (iSeq (vVar 0)) (gNm 1) (sIf (tAndE (tV (vB ninD (vVar 1) (vC (.str [97, 98, 99, 100, 101, 102, 103, 104, 105, 106, 107, 108, 109, 110, 111, 112, 113, 114, 115, 116, 117, 118, 119, 120, 121, 122])))) (tV (vB ninD (vVar 1) (vC (.str [48, 49, 50, 51, 52, 53, 54, 55, 56, 57]))))) (sRet (vC (.bl false))) (sNil))) <|
    sRet (vC (.bl true))
def b_fresh_names (c : FN → List D → Hst → Res D) (g : Nat) : Sm :=
    sSeq (sSet 2 (vLst (aNil))) <|
    sSeq (sSet 3 (vC (.int 0))) <|
    sSeq (whileL (tV (vB ltD (vCall lenD (aCons (vVar 2) (aNil))) (vVar 0))) (sSeq (sSet 4 (vB addD (vC (.str [118])) (vCall strC (aCons (vVar 3) (aNil))))) <|
    sSeq (sIf (tV (vB ninD (vVar 4) (vVar 1))) (sExpr (vM .list appendM (vVar 2) (aCons (vVar 4) (aNil)))) (sNil)) <|
    sAug 3 addS (vC (.int 1))) g) <|
    sRet (vVar 2)
def b_l_cell (c : FN → List D → Hst → Res D) (g : Nat) : Sm :=
    sSeq (sIf (tV (vB ltD (vVar 1) (vCall lenD (aCons (vVar 0) (aNil))))) (sRet (vB ixD (vVar 0) (vVar 1))) (sNil)) <|
    sRet (vC (.int 0))
def b_l_at (c : FN → List D → Hst → Res D) (g : Nat) : Sm :=
    sSeq (sIf (tV (vB ltD (vVar 1) (vCall lenD (aCons (vVar 0) (aNil))))) (sRet (vB ixD (vVar 0) (vVar 1))) (sNil)) <|
    sRet (vC (.int 0))
def b_l_same (c : FN → List D → Hst → Res D) (g : Nat) : Sm :=
    sSeq (sIf (tTru (vIsi [.bool] (vVar 1))) (sRet (vAnd (vIsi [.bool] (vVar 0)) (vB eqD (vVar 0) (vVar 1)))) (sNil)) <|
    sSeq (sIf (tTru (vIsi [.str] (vVar 1))) (sRet (vAnd (vIsi [.str] (vVar 0)) (vB eqD (vVar 0) (vVar 1)))) (sNil)) <|
    sSeq (sIf (tOrE (tNotE (tTru (vIsi [.list] (vVar 0)))) (tV (vB neD (vCall lenD (aCons (vVar 0) (aNil))) (vCall lenD (aCons (vVar 1) (aNil)))))) (sRet (vC (.bl false))) (sNil)) <|
    sSeq (sFor (iRng1 (aCons (vCall lenD (aCons (vVar 1) (aNil))) (aNil))) (gNm 2) (sIf (tNotE (tTru (vF 2 (c .l_same) (aCons (vB ixD (vVar 0) (vVar 2)) (aCons (vB ixD (vVar 1) (vVar 2)) (aNil)))))) (sRet (vC (.bl false))) (sNil))) <|
    sRet (vC (.bl true))
def b_l_digits (c : FN → List D → Hst → Res D) (g : Nat) : Sm :=
    sSeq (sSet 3 (vLst (aNil))) <|
    sSeq (sSet 4 (vCall absD (aCons (vVar 0) (aNil)))) <|
    sSeq (sIf (tV (vB geD (vVar 4) (vB powD (vC (.int 10)) (vC (.int 18))))) (sSeq (sFor (iRng1 (aCons (vVar 1) (aNil))) (gNm 5) (sIf (tV (vB gtD (vVar 4) (vC (.int 0)))) (sSeq (sExpr (vM .list appendM (vVar 3) (aCons (vB modD (vVar 4) (vC (.int 120))) (aNil)))) <|
    sSet 4 (vB divD (vVar 4) (vC (.int 120)))) (sNil))) <|
    sRet (vVar 3)) (sNil)) <|
    sSeq (sSet 6 (vB addD (vB addD (vB mulD (vVar 4) (vC (.int 48271))) (vB mulD (vVar 2) (vC (.int 69621)))) (vC (.int 12345)))) <|
    sSeq (sFor (iRng1 (aCons (vVar 1) (aNil))) (gNm 5) (sSeq (sSet 6 (vB modD (vCall intC (aCons (vB addD (vB addD (vB mulD (vVar 6) (vC (.int 48271))) (vC (.int 11))) (vVar 5)) (aNil))) (vC (.int 2147483647)))) <|
    sExpr (vM .list appendM (vVar 3) (aCons (vB modD (vB divD (vB modD (vCall intC (aCons (vB addD (vB mulD (vVar 6) (vC (.int 69621))) (vVar 2)) (aNil))) (vC (.int 2147483629))) (vC (.int 7))) (vC (.int 120))) (aNil))))) <|
    sRet (vVar 3)
def b_l_string (c : FN → List D → Hst → Res D) (g : Nat) : Sm :=
    sSeq (sSet 1 (vLst (aCons (vC (.str [118, 48])) (aCons (vC (.str [118, 48])) (aCons (vC (.str [118, 48, 49])) (aCons (vC (.str [86, 51])) (aCons (vC (.str [119, 51])) (aCons (vC (.str [])) (aCons (vC (.str [118])) (aCons (vC (.str [51])) (aCons (vC (.str [118, 118, 49])) (aCons (vC (.str [118, 32, 49])) (aCons (vC (.str [118, 49, 32])) (aCons (vC (.str [118, 48, 48])) (aCons (vC (.str [118, 49, 48])) (aCons (vC (.str [86, 48])) (aCons (vC (.str [97, 50, 51, 52, 53, 54, 55, 56])) (aNil)))))))))))))))))) <|
    sSeq (sIf (tV (vB ltD (vVar 0) (vC (.int 90)))) (sRet (vB addD (vC (.str [118])) (vCall strC (aCons (vVar 0) (aNil))))) (sNil)) <|
    sRet (vB ixD (vVar 1) (vB modD (vCall intC (aCons (vVar 0) (aNil))) (vC (.int 15))))
def b_l_word (c : FN → List D → Hst → Res D) (g : Nat) : Sm :=
    sSeq (sSet 1 (vC (.str [97, 98, 99, 100, 101, 102, 103, 104, 105, 106, 107, 108, 109, 110, 111, 112, 113, 114, 115, 116, 117, 118, 119, 120, 121, 122, 48, 49, 50, 51, 52, 53, 54, 55, 56, 57]))) <|
    sSeq (sSet 2 (vC (.str [32, 33, 34, 35, 36, 38, 39, 40, 41, 42, 43, 44, 45, 46, 47, 48, 49, 50, 51, 52, 53, 54, 55, 56, 57, 58, 59, 60, 61, 62, 63, 64, 65, 66, 67, 68, 69, 70, 71, 72, 73, 74, 75, 76, 77, 78, 79, 80, 81, 82, 83, 84, 85, 86, 87, 88, 89, 90, 91, 92, 93, 94, 95, 96]))) <|
    sSeq (sSet 2 (vB addD (vVar 2) (vC (.str [97, 98, 99, 100, 101, 102, 103, 104, 105, 106, 107, 108, 109, 110, 111, 112, 113, 114, 115, 116, 117, 118, 119, 120, 121, 122, 123, 124, 125, 126, 10, 9])))) <|
    sSeq (sSet 3 (vB modD (vCall intC (aCons (vF 2 (c .l_at) (aCons (vVar 0) (aCons (vC (.int 0)) (aNil)))) (aNil))) (vC (.int 11)))) <|
    sSeq (sSet 4 (vB modD (vCall intC (aCons (vF 2 (c .l_at) (aCons (vVar 0) (aCons (vC (.int 1)) (aNil)))) (aNil))) (vC (.int 4)))) <|
    sSeq (sSet 5 (vB modD (vCall intC (aCons (vF 2 (c .l_at) (aCons (vVar 0) (aCons (vC (.int 2)) (aNil)))) (aNil))) (vC (.int 10)))) <|
    sSeq (sSet 6 (vC (.str []))) <|
    sSeq (sFor (iRng1 (aCons (vVar 3) (aNil))) (gNm 7) (sSeq (sSet 8 (vCall intC (aCons (vF 2 (c .l_at) (aCons (vVar 0) (aCons (vB addD (vC (.int 3)) (vVar 7)) (aNil)))) (aNil)))) <|
    sIf (tOrE (tV (vB eqD (vVar 4) (vC (.int 0)))) (tAndE (tV (vB eqD (vVar 4) (vC (.int 1)))) (tV (vB eqD (vVar 7) (vVar 5))))) (sSet 6 (vB addD (vVar 6) (vB ixD (vVar 2) (vB modD (vVar 8) (vC (.int 96)))))) (sSet 6 (vB addD (vVar 6) (vB ixD (vVar 1) (vB modD (vVar 8) (vC (.int 36)))))))) <|
    sRet (vVar 6)
def b_l_named (c : FN → List D → Hst → Res D) (g : Nat) : Sm :=
    sSeq (sSet 1 (vC (.str [97, 98, 99, 100, 101, 102, 103, 104, 105, 106, 107, 108, 109, 110, 111, 112, 113, 114, 115, 116, 117, 118, 119, 120, 121, 122]))) <|
    sSeq (sIf (tOrE (tV (vB ltD (vCall lenD (aCons (vVar 0) (aNil))) (vC (.int 1)))) (tV (vB gtD (vCall lenD (aCons (vVar 0) (aNil))) (vC (.int 8))))) (sRet (vC (.bl false))) (sNil)) <|
    sSeq (sFor (iRng1 (aCons (vCall lenD (aCons (vVar 0) (aNil))) (aNil))) (gNm 2) (sIf (tAndE (tV (vB ninD (vB ixD (vVar 0) (vVar 2)) (vVar 1))) (tOrE (tV (vB eqD (vVar 2) (vC (.int 0)))) (tV (vB ninD (vB ixD (vVar 0) (vVar 2)) (vC (.str [48, 49, 50, 51, 52, 53, 54, 55, 56, 57])))))) (sRet (vC (.bl false))) (sNil))) <|
    sRet (vC (.bl true))
def b_l_fresh (c : FN → List D → Hst → Res D) (g : Nat) : Sm :=
    sSeq (sSet 2 (vLst (aNil))) <|
    sSeq (sFor (iRng1 (aCons (vB addD (vVar 0) (vCall lenD (aCons (vVar 1) (aNil)))) (aNil))) (gNm 3) (sIf (tAndE (tV (vB ltD (vCall lenD (aCons (vVar 2) (aNil))) (vVar 0))) (tV (vB ninD (vB addD (vC (.str [118])) (vCall strC (aCons (vVar 3) (aNil)))) (vVar 1)))) (sExpr (vM .list appendM (vVar 2) (aCons (vB addD (vC (.str [118])) (vCall strC (aCons (vVar 3) (aNil)))) (aNil)))) (sNil))) <|
    sRet (vVar 2)
def b_f_law (c : FN → List D → Hst → Res D) (g : Nat) : Sm :=
    sSeq (sSet 1 (vCall intC (aCons (vF 2 (c .l_cell) (aCons (vVar 0) (aCons (vC (.int 0)) (aNil)))) (aNil)))) <|
    sSeq (sSet 2 (vB addD (vB modD (vVar 1) (vC (.int 81))) (vB mulD (vC (.int 300)) (vCall intC (aCons (vB eqD (vB modD (vB divD (vVar 1) (vC (.int 81))) (vC (.int 8))) (vC (.int 5))) (aNil)))))) <|
    sSeq (sSet 3 (vB modD (vCall intC (aCons (vF 2 (c .l_cell) (aCons (vVar 0) (aCons (vC (.int 1)) (aNil)))) (aNil))) (vC (.int 41)))) <|
    sSeq (sSet 4 (vF 3 (c .l_digits) (aCons (vF 2 (c .l_cell) (aCons (vVar 0) (aCons (vC (.int 2)) (aNil)))) (aCons (vC (.int 40)) (aCons (vC (.int 1)) (aNil)))))) <|
    sSeq (sSet 5 (vLc [6] (iSeq (vSl (vVar 4) (oN) (oS (vVar 3)))) (gNm 6) (tsN) (vF 1 (c .l_string) (aCons (vVar 6) (aNil))))) <|
    sSeq (sSet 7 (vCall listC (aCons (vVar 5) (aNil)))) <|
    sSeq (sSet 8 (vF 2 (c .l_fresh) (aCons (vVar 2) (aCons (vVar 7) (aNil))))) <|
    sSeq (sSet 9 (vF 2 (c .fresh_names) (aCons (vVar 2) (aCons (vVar 5) (aNil))))) <|
    sSeq (sIf (tOrE (tNotE (tTru (vF 2 (c .l_same) (aCons (vVar 9) (aCons (vVar 8) (aNil)))))) (tNotE (tTru (vF 2 (c .l_same) (aCons (vVar 5) (aCons (vVar 7) (aNil))))))) (sRet (vC (.bl false))) (sNil)) <|
    sSeq (sExpr (vM .list appendM (vVar 9) (aCons (vC (.str [119])) (aNil)))) <|
    sSeq (sIf (tOrE (tNotE (tTru (vF 2 (c .l_same) (aCons (vF 2 (c .fresh_names) (aCons (vVar 2) (aCons (vCall tupC (aCons (vVar 7) (aNil))) (aNil)))) (aCons (vVar 8) (aNil)))))) (tNotE (tTru (vF 2 (c .l_same) (aCons (vF 2 (c .fresh_names) (aCons (vVar 2) (aCons (vVar 5) (aNil)))) (aCons (vVar 8) (aNil))))))) (sRet (vC (.bl false))) (sNil)) <|
    sSeq (sSet 10 (vLc [11] (iRng1 (aCons (vC (.int 8)) (aNil))) (gNm 11) (tsN) (vF 1 (c .l_word) (aCons (vF 3 (c .l_digits) (aCons (vF 2 (c .l_cell) (aCons (vVar 0) (aCons (vB addD (vC (.int 3)) (vVar 11)) (aNil)))) (aCons (vC (.int 13)) (aCons (vB addD (vC (.int 2)) (vVar 11)) (aNil))))) (aNil))))) <|
    sSeq (sFor (iSeq (vB addD (vB addD (vVar 10) (vSl (vVar 7) (oN) (oS (vC (.int 3))))) (vSl (vVar 8) (oS (vU negD (vC (.int 2)))) (oN)))) (gNm 12) (sIf (tNotE (tTru (vF 2 (c .l_same) (aCons (vF 1 (c .is_name) (aCons (vVar 12) (aNil))) (aCons (vF 1 (c .l_named) (aCons (vVar 12) (aNil))) (aNil)))))) (sRet (vC (.bl false))) (sNil))) <|
    sRet (vC (.bl true))
def body (c : FN → List D → Hst → Res D) (g : Nat) : FN → Sm
  | .is_name => b_is_name c g
  | .fresh_names => b_fresh_names c g
  | .l_cell => b_l_cell c g
  | .l_at => b_l_at c g
  | .l_same => b_l_same c g
  | .l_digits => b_l_digits c g
  | .l_string => b_l_string c g
  | .l_word => b_l_word c g
  | .l_named => b_l_named c g
  | .l_fresh => b_l_fresh c g
  | .f_law => b_f_law c g
def ns : FN → Nat
  | .is_name => 2
  | .fresh_names => 5
  | .l_cell => 2
  | .l_at => 2
  | .l_same => 3
  | .l_digits => 7
  | .l_string => 2
  | .l_word => 9
  | .l_named => 3
  | .l_fresh => 4
  | .f_law => 13
/-- a call, at most n deep; a while loop turns g times at most -/
def callF (g : Nat) : Nat → FN → List D → Hst → Res D
  | 0, _, _, _ => .bad
  | n + 1, f, ds, h => runF (ns f) (body (callF g n) g f) ds h
end Run
/-! ### the defs as they stand in the text -/
def d_is_name : He.DefD := ⟨("is_name", none), "is_name", "is_name", defArgs (tp 4), defBody (tp 4), defScope (tp 4), [], []⟩
abbrev nm_is_name : List Str := ["text", "char"]
abbrev ps_is_name : List Str := ["text"]
theorem sc_is_name : FnScope nm_is_name ps_is_name (d_is_name.scope) := ⟨rfl, rfl, rfl, by decide +kernel, rfl, by decide +kernel, by decide +kernel⟩
def d_fresh_names : He.DefD := ⟨("fresh_names", none), "fresh_names", "fresh_names", defArgs (tp 5), defBody (tp 5), defScope (tp 5), [], []⟩
abbrev nm_fresh_names : List Str := ["count", "taken", "found", "number", "name"]
abbrev ps_fresh_names : List Str := ["count", "taken"]
theorem sc_fresh_names : FnScope nm_fresh_names ps_fresh_names (d_fresh_names.scope) := ⟨rfl, rfl, rfl, by decide +kernel, rfl, by decide +kernel, by decide +kernel⟩
def d_l_cell : He.DefD := ⟨("_law_cell", none), "_law_cell", "_law_cell", defArgs (tp 7), defBody (tp 7), defScope (tp 7), [], []⟩
abbrev nm_l_cell : List Str := ["script", "k"]
abbrev ps_l_cell : List Str := ["script", "k"]
theorem sc_l_cell : FnScope nm_l_cell ps_l_cell (d_l_cell.scope) := ⟨rfl, rfl, rfl, by decide +kernel, rfl, by decide +kernel, by decide +kernel⟩
def d_l_at : He.DefD := ⟨("_law_at", none), "_law_at", "_law_at", defArgs (tp 8), defBody (tp 8), defScope (tp 8), [], []⟩
abbrev nm_l_at : List Str := ["digits", "k"]
abbrev ps_l_at : List Str := ["digits", "k"]
theorem sc_l_at : FnScope nm_l_at ps_l_at (d_l_at.scope) := ⟨rfl, rfl, rfl, by decide +kernel, rfl, by decide +kernel, by decide +kernel⟩
def d_l_same : He.DefD := ⟨("_law_same", none), "_law_same", "_law_same", defArgs (tp 9), defBody (tp 9), defScope (tp 9), [], []⟩
abbrev nm_l_same : List Str := ["told", "due", "k"]
abbrev ps_l_same : List Str := ["told", "due"]
theorem sc_l_same : FnScope nm_l_same ps_l_same (d_l_same.scope) := ⟨rfl, rfl, rfl, by decide +kernel, rfl, by decide +kernel, by decide +kernel⟩
def d_l_digits : He.DefD := ⟨("_law_digits", none), "_law_digits", "_law_digits", defArgs (tp 10), defBody (tp 10), defScope (tp 10), [], []⟩
abbrev nm_l_digits : List Str := ["cell", "many", "salt", "found", "rest", "k", "mixed"]
abbrev ps_l_digits : List Str := ["cell", "many", "salt"]
theorem sc_l_digits : FnScope nm_l_digits ps_l_digits (d_l_digits.scope) := ⟨rfl, rfl, rfl, by decide +kernel, rfl, by decide +kernel, by decide +kernel⟩
def d_l_string : He.DefD := ⟨("_law_string", none), "_law_string", "_law_string", defArgs (tp 11), defBody (tp 11), defScope (tp 11), [], []⟩
abbrev nm_l_string : List Str := ["digit", "others"]
abbrev ps_l_string : List Str := ["digit"]
theorem sc_l_string : FnScope nm_l_string ps_l_string (d_l_string.scope) := ⟨rfl, rfl, rfl, by decide +kernel, rfl, by decide +kernel, by decide +kernel⟩
def d_l_word : He.DefD := ⟨("_law_word", none), "_law_word", "_law_word", defArgs (tp 12), defBody (tp 12), defScope (tp 12), [], []⟩
abbrev nm_l_word : List Str := ["digits", "plain", "every", "many", "style", "odd", "word", "k", "digit"]
abbrev ps_l_word : List Str := ["digits"]
theorem sc_l_word : FnScope nm_l_word ps_l_word (d_l_word.scope) := ⟨rfl, rfl, rfl, by decide +kernel, rfl, by decide +kernel, by decide +kernel⟩
def d_l_named : He.DefD := ⟨("_law_named", none), "_law_named", "_law_named", defArgs (tp 13), defBody (tp 13), defScope (tp 13), [], []⟩
abbrev nm_l_named : List Str := ["text", "letters", "k"]
abbrev ps_l_named : List Str := ["text"]
theorem sc_l_named : FnScope nm_l_named ps_l_named (d_l_named.scope) := ⟨rfl, rfl, rfl, by decide +kernel, rfl, by decide +kernel, by decide +kernel⟩
def d_l_fresh : He.DefD := ⟨("_law_fresh", none), "_law_fresh", "_law_fresh", defArgs (tp 14), defBody (tp 14), defScope (tp 14), [], []⟩
abbrev nm_l_fresh : List Str := ["count", "taken", "found", "k"]
abbrev ps_l_fresh : List Str := ["count", "taken"]
theorem sc_l_fresh : FnScope nm_l_fresh ps_l_fresh (d_l_fresh.scope) := ⟨rfl, rfl, rfl, by decide +kernel, rfl, by decide +kernel, by decide +kernel⟩
def d_f_law : He.DefD := ⟨("law", none), "law", "law", defArgs (tp 15), defBody (tp 15), defScope (tp 15), [], []⟩
abbrev nm_f_law : List Str := ["script", "first", "count", "many", "digits", "taken", "digit", "kept", "due", "told", "words", "k", "word"]
abbrev ps_f_law : List Str := ["script"]
theorem sc_f_law : FnScope nm_f_law ps_f_law (d_f_law.scope) := ⟨rfl, rfl, rfl, by decide +kernel, rfl, by decide +kernel, by decide +kernel⟩
def dOf : FN → He.DefD
  | .is_name => d_is_name
  | .fresh_names => d_fresh_names
  | .l_cell => d_l_cell
  | .l_at => d_l_at
  | .l_same => d_l_same
  | .l_digits => d_l_digits
  | .l_string => d_l_string
  | .l_word => d_l_word
  | .l_named => d_l_named
  | .l_fresh => d_l_fresh
  | .f_law => d_f_law
def psOf : FN → List Str
  | .is_name => ps_is_name
  | .fresh_names => ps_fresh_names
  | .l_cell => ps_l_cell
  | .l_at => ps_l_at
  | .l_same => ps_l_same
  | .l_digits => ps_l_digits
  | .l_string => ps_l_string
  | .l_word => ps_l_word
  | .l_named => ps_l_named
  | .l_fresh => ps_l_fresh
  | .f_law => ps_f_law
structure Top (K : PySem.W.Frag) (mg : Str → Option Value) : Prop where
  z_abs : mg "abs" = none
  z_bool : mg "bool" = none
  z_int : mg "int" = none
  z_isinstance : mg "isinstance" = none
  z_len : mg "len" = none
  z_list : mg "list" = none
  z_range : mg "range" = none
  z_str : mg "str" = none
  z_tuple : mg "tuple" = none
  g_DIGITS : ∃ t, mg "DIGITS" = some (.str "0123456789" t)
  g_LETTERS : ∃ t, mg "LETTERS" = some (.str "abcdefghijklmnopqrstuvwxyz" t)
  g_LONGEST : ∃ t, mg "LONGEST" = some (.int (8) t)
  f_is_name : mg "is_name" = some (.ref (He.fAd K d_is_name.at_))
  t_is_name : ∃ fd, FunD K d_is_name.name d_is_name.qual d_is_name.params d_is_name.body d_is_name.scope (d_is_name.dvs K) (d_is_name.kws K) (He.fAd K d_is_name.at_) fd
  f_fresh_names : mg "fresh_names" = some (.ref (He.fAd K d_fresh_names.at_))
  t_fresh_names : ∃ fd, FunD K d_fresh_names.name d_fresh_names.qual d_fresh_names.params d_fresh_names.body d_fresh_names.scope (d_fresh_names.dvs K) (d_fresh_names.kws K) (He.fAd K d_fresh_names.at_) fd
  f_l_cell : mg "_law_cell" = some (.ref (He.fAd K d_l_cell.at_))
  t_l_cell : ∃ fd, FunD K d_l_cell.name d_l_cell.qual d_l_cell.params d_l_cell.body d_l_cell.scope (d_l_cell.dvs K) (d_l_cell.kws K) (He.fAd K d_l_cell.at_) fd
  f_l_at : mg "_law_at" = some (.ref (He.fAd K d_l_at.at_))
  t_l_at : ∃ fd, FunD K d_l_at.name d_l_at.qual d_l_at.params d_l_at.body d_l_at.scope (d_l_at.dvs K) (d_l_at.kws K) (He.fAd K d_l_at.at_) fd
  f_l_same : mg "_law_same" = some (.ref (He.fAd K d_l_same.at_))
  t_l_same : ∃ fd, FunD K d_l_same.name d_l_same.qual d_l_same.params d_l_same.body d_l_same.scope (d_l_same.dvs K) (d_l_same.kws K) (He.fAd K d_l_same.at_) fd
  f_l_digits : mg "_law_digits" = some (.ref (He.fAd K d_l_digits.at_))
  t_l_digits : ∃ fd, FunD K d_l_digits.name d_l_digits.qual d_l_digits.params d_l_digits.body d_l_digits.scope (d_l_digits.dvs K) (d_l_digits.kws K) (He.fAd K d_l_digits.at_) fd
  f_l_string : mg "_law_string" = some (.ref (He.fAd K d_l_string.at_))
  t_l_string : ∃ fd, FunD K d_l_string.name d_l_string.qual d_l_string.params d_l_string.body d_l_string.scope (d_l_string.dvs K) (d_l_string.kws K) (He.fAd K d_l_string.at_) fd
  f_l_word : mg "_law_word" = some (.ref (He.fAd K d_l_word.at_))
  t_l_word : ∃ fd, FunD K d_l_word.name d_l_word.qual d_l_word.params d_l_word.body d_l_word.scope (d_l_word.dvs K) (d_l_word.kws K) (He.fAd K d_l_word.at_) fd
  f_l_named : mg "_law_named" = some (.ref (He.fAd K d_l_named.at_))
  t_l_named : ∃ fd, FunD K d_l_named.name d_l_named.qual d_l_named.params d_l_named.body d_l_named.scope (d_l_named.dvs K) (d_l_named.kws K) (He.fAd K d_l_named.at_) fd
  f_l_fresh : mg "_law_fresh" = some (.ref (He.fAd K d_l_fresh.at_))
  t_l_fresh : ∃ fd, FunD K d_l_fresh.name d_l_fresh.qual d_l_fresh.params d_l_fresh.body d_l_fresh.scope (d_l_fresh.dvs K) (d_l_fresh.kws K) (He.fAd K d_l_fresh.at_) fd
  f_f_law : mg "law" = some (.ref (He.fAd K d_f_law.at_))
  t_f_law : ∃ fd, FunD K d_f_law.name d_f_law.qual d_f_law.params d_f_law.body d_f_law.scope (d_f_law.dvs K) (d_f_law.kws K) (He.fAd K d_f_law.at_) fd
section
variable {P : Program} {w : World} {K : PySem.W.Frag} {mg : Str → Option Value} {base : Heap} {n : Nat}
abbrev FnA (P : Program) (w : World) (K : PySem.W.Frag) (mg : Str → Option Value) (base : Heap) (g n : Nat) (f : FN) : Prop := FnM P w K mg base n (dOf f) (psOf f) (Run.callF g n f)
theorem bn_is_name {fd : FuncData} (F : FunD K d_is_name.name d_is_name.qual d_is_name.params d_is_name.body d_is_name.scope (d_is_name.dvs K) (d_is_name.kws K) (He.fAd K d_is_name.at_) fd) : Binds K fd ps_is_name [] :=
  FunD.bindsN F fun _ _ _ _ _ _ us hl => match us, hl with | [_], _ => rfl
theorem bn_fresh_names {fd : FuncData} (F : FunD K d_fresh_names.name d_fresh_names.qual d_fresh_names.params d_fresh_names.body d_fresh_names.scope (d_fresh_names.dvs K) (d_fresh_names.kws K) (He.fAd K d_fresh_names.at_) fd) : Binds K fd ps_fresh_names [] :=
  FunD.bindsN F fun _ _ _ _ _ _ us hl => match us, hl with | [_, _], _ => rfl
theorem bn_l_cell {fd : FuncData} (F : FunD K d_l_cell.name d_l_cell.qual d_l_cell.params d_l_cell.body d_l_cell.scope (d_l_cell.dvs K) (d_l_cell.kws K) (He.fAd K d_l_cell.at_) fd) : Binds K fd ps_l_cell [] :=
  FunD.bindsN F fun _ _ _ _ _ _ us hl => match us, hl with | [_, _], _ => rfl
theorem bn_l_at {fd : FuncData} (F : FunD K d_l_at.name d_l_at.qual d_l_at.params d_l_at.body d_l_at.scope (d_l_at.dvs K) (d_l_at.kws K) (He.fAd K d_l_at.at_) fd) : Binds K fd ps_l_at [] :=
  FunD.bindsN F fun _ _ _ _ _ _ us hl => match us, hl with | [_, _], _ => rfl
theorem bn_l_same {fd : FuncData} (F : FunD K d_l_same.name d_l_same.qual d_l_same.params d_l_same.body d_l_same.scope (d_l_same.dvs K) (d_l_same.kws K) (He.fAd K d_l_same.at_) fd) : Binds K fd ps_l_same [] :=
  FunD.bindsN F fun _ _ _ _ _ _ us hl => match us, hl with | [_, _], _ => rfl
theorem bn_l_digits {fd : FuncData} (F : FunD K d_l_digits.name d_l_digits.qual d_l_digits.params d_l_digits.body d_l_digits.scope (d_l_digits.dvs K) (d_l_digits.kws K) (He.fAd K d_l_digits.at_) fd) : Binds K fd ps_l_digits [] :=
  FunD.bindsN F fun _ _ _ _ _ _ us hl => match us, hl with | [_, _, _], _ => rfl
theorem bn_l_string {fd : FuncData} (F : FunD K d_l_string.name d_l_string.qual d_l_string.params d_l_string.body d_l_string.scope (d_l_string.dvs K) (d_l_string.kws K) (He.fAd K d_l_string.at_) fd) : Binds K fd ps_l_string [] :=
  FunD.bindsN F fun _ _ _ _ _ _ us hl => match us, hl with | [_], _ => rfl
theorem bn_l_word {fd : FuncData} (F : FunD K d_l_word.name d_l_word.qual d_l_word.params d_l_word.body d_l_word.scope (d_l_word.dvs K) (d_l_word.kws K) (He.fAd K d_l_word.at_) fd) : Binds K fd ps_l_word [] :=
  FunD.bindsN F fun _ _ _ _ _ _ us hl => match us, hl with | [_], _ => rfl
theorem bn_l_named {fd : FuncData} (F : FunD K d_l_named.name d_l_named.qual d_l_named.params d_l_named.body d_l_named.scope (d_l_named.dvs K) (d_l_named.kws K) (He.fAd K d_l_named.at_) fd) : Binds K fd ps_l_named [] :=
  FunD.bindsN F fun _ _ _ _ _ _ us hl => match us, hl with | [_], _ => rfl
theorem bn_l_fresh {fd : FuncData} (F : FunD K d_l_fresh.name d_l_fresh.qual d_l_fresh.params d_l_fresh.body d_l_fresh.scope (d_l_fresh.dvs K) (d_l_fresh.kws K) (He.fAd K d_l_fresh.at_) fd) : Binds K fd ps_l_fresh [] :=
  FunD.bindsN F fun _ _ _ _ _ _ us hl => match us, hl with | [_, _], _ => rfl
theorem bn_f_law {fd : FuncData} (F : FunD K d_f_law.name d_f_law.qual d_f_law.params d_f_law.body d_f_law.scope (d_f_law.dvs K) (d_f_law.kws K) (He.fAd K d_f_law.at_) fd) : Binds K fd ps_f_law [] :=
  FunD.bindsN F fun _ _ _ _ _ _ us hl => match us, hl with | [_], _ => rfl
set_option maxHeartbeats 4000000 in
theorem ok_is_name (g : Nat) (T : Top K mg) (U : ∀ f : FN, FnA P w K mg base g n f) : FnA P w K mg base g (n + 1) .is_name := by
  obtain ⟨fd, hF⟩ := T.t_is_name
  refine fn_succ (d := d_is_name) (N := nm_is_name) (ps := ps_is_name) (b := Run.b_is_name (Run.callF g n) g) hF (bn_is_name hF) sc_is_name (by decide) (fun cdv A outer s H E hr => ?_) (fun _ _ => rfl)
  have tk : Takes (cxOf (L2.CX P w) P w K mg base nm_is_name d_is_name.qual d_is_name.scope (He.fAd K d_is_name.at_) cdv A outer s H E) (fun c dd _ H' => E c dd H') := takes_of rfl rfl rfl rfl
  have po : PassesOwn (model P w) (A.deeper (envOfC d_is_name.qual d_is_name.scope s.heap.objs.size (He.fAd K d_is_name.at_) cdv)) (envOfC d_is_name.qual d_is_name.scope s.heap.objs.size (He.fAd K d_is_name.at_) cdv) (cxOf (L2.CX P w) P w K mg base nm_is_name d_is_name.qual d_is_name.scope (He.fAd K d_is_name.at_) cdv A outer s H E).xe := passes_of rfl
  exact ss_cons (ss_if (st_w (sw_or (st_not (st_chain op_le vop_cmp op_le vop_cmp (se_int) (se_callB call_lenM vc_len (by rfl) T.z_len (sa_cons (se_var 0) (sa_nil))) (se_gint (by rfl) T.g_LONGEST))) (sw_or1 (st_cmpR (op_ninA (hu_of hr)) vop_nin (se_ix (hu_of hr) (se_var 0) (se_int)) (se_gstr [97, 98, 99, 100, 101, 102, 103, 104, 105, 106, 107, 108, 109, 110, 111, 112, 113, 114, 115, 116, 117, 118, 119, 120, 121, 122] (by rfl) T.g_LETTERS) (by rfl))))) (ss_one (ss_ret (se_bl))) (ss_nil)) <|
    ss_cons (ss_for po rfl (si_seq (se_var 0)) (sg_nm sc_is_name.nd) (ss_one (ss_if (st_w (sw_and (st_cmpR (op_ninA (hu_of hr)) vop_nin (se_var 1) (se_gstr [97, 98, 99, 100, 101, 102, 103, 104, 105, 106, 107, 108, 109, 110, 111, 112, 113, 114, 115, 116, 117, 118, 119, 120, 121, 122] (by rfl) T.g_LETTERS) (by rfl)) (sw_and1 (st_cmpR (op_ninA (hu_of hr)) vop_nin (se_var 1) (se_gstr [48, 49, 50, 51, 52, 53, 54, 55, 56, 57] (by rfl) T.g_DIGITS) (by rfl))))) (ss_one (ss_ret (se_bl))) (ss_nil)))) <|
    ss_one (ss_ret (se_bl))
set_option maxHeartbeats 4000000 in
theorem ok_fresh_names (g : Nat) (T : Top K mg) (U : ∀ f : FN, FnA P w K mg base g n f) : FnA P w K mg base g (n + 1) .fresh_names := by
  obtain ⟨fd, hF⟩ := T.t_fresh_names
  refine fn_succ (d := d_fresh_names) (N := nm_fresh_names) (ps := ps_fresh_names) (b := Run.b_fresh_names (Run.callF g n) g) hF (bn_fresh_names hF) sc_fresh_names (by decide) (fun cdv A outer s H E hr => ?_) (fun _ _ => rfl)
  have tk : Takes (cxOf (L2.CX P w) P w K mg base nm_fresh_names d_fresh_names.qual d_fresh_names.scope (He.fAd K d_fresh_names.at_) cdv A outer s H E) (fun c dd _ H' => E c dd H') := takes_of rfl rfl rfl rfl
  have po : PassesOwn (model P w) (A.deeper (envOfC d_fresh_names.qual d_fresh_names.scope s.heap.objs.size (He.fAd K d_fresh_names.at_) cdv)) (envOfC d_fresh_names.qual d_fresh_names.scope s.heap.objs.size (He.fAd K d_fresh_names.at_) cdv) (cxOf (L2.CX P w) P w K mg base nm_fresh_names d_fresh_names.qual d_fresh_names.scope (He.fAd K d_fresh_names.at_) cdv A outer s H E).xe := passes_of rfl
  exact ss_cons (ss_set sc_fresh_names.nd (i := 2) (se_lst (sa_nil))) <|
    ss_cons (ss_set sc_fresh_names.nd (i := 3) (se_int)) <|
    ss_cons (ss_while g po (st_cmpR op_lt vop_cmp (se_callB call_lenM vc_len (by rfl) T.z_len (sa_cons (se_var 2) (sa_nil))) (se_var 0) (nomark _)) (ss_cons (ss_set sc_fresh_names.nd (i := 4) (se_bin op_addM vop_add (se_str [118]) (se_callT call_str_int vc_str (by rfl) T.z_str (sa_cons (se_var 3) (sa_nil))))) <|
    ss_cons (ss_if (st_cmpR (op_ninA (hu_of hr)) vop_nin (se_var 4) (se_var 1) (by rfl)) (ss_one (ss_expr (se_append (se_var 2) (sa_cons (se_var 4) (sa_nil))))) (ss_nil)) <|
    ss_one (ss_aug (j := 3) sc_fresh_names.nd iop_addS vop_addS (se_int)))) <|
    ss_one (ss_ret (se_var 2))
set_option maxHeartbeats 4000000 in
theorem ok_l_cell (g : Nat) (T : Top K mg) (U : ∀ f : FN, FnA P w K mg base g n f) : FnA P w K mg base g (n + 1) .l_cell := by
  obtain ⟨fd, hF⟩ := T.t_l_cell
  refine fn_succ (d := d_l_cell) (N := nm_l_cell) (ps := ps_l_cell) (b := Run.b_l_cell (Run.callF g n) g) hF (bn_l_cell hF) sc_l_cell (by decide) (fun cdv A outer s H E hr => ?_) (fun _ _ => rfl)
  have tk : Takes (cxOf (L2.CX P w) P w K mg base nm_l_cell d_l_cell.qual d_l_cell.scope (He.fAd K d_l_cell.at_) cdv A outer s H E) (fun c dd _ H' => E c dd H') := takes_of rfl rfl rfl rfl
  have po : PassesOwn (model P w) (A.deeper (envOfC d_l_cell.qual d_l_cell.scope s.heap.objs.size (He.fAd K d_l_cell.at_) cdv)) (envOfC d_l_cell.qual d_l_cell.scope s.heap.objs.size (He.fAd K d_l_cell.at_) cdv) (cxOf (L2.CX P w) P w K mg base nm_l_cell d_l_cell.qual d_l_cell.scope (He.fAd K d_l_cell.at_) cdv A outer s H E).xe := passes_of rfl
  exact ss_cons (ss_if (st_cmpR op_lt vop_cmp (se_var 1) (se_callB call_lenM vc_len (by rfl) T.z_len (sa_cons (se_var 0) (sa_nil))) (nomark _)) (ss_one (ss_ret (se_ix (hu_of hr) (se_var 0) (se_var 1)))) (ss_nil)) <|
    ss_one (ss_ret (se_int))
set_option maxHeartbeats 4000000 in
theorem ok_l_at (g : Nat) (T : Top K mg) (U : ∀ f : FN, FnA P w K mg base g n f) : FnA P w K mg base g (n + 1) .l_at := by
  obtain ⟨fd, hF⟩ := T.t_l_at
  refine fn_succ (d := d_l_at) (N := nm_l_at) (ps := ps_l_at) (b := Run.b_l_at (Run.callF g n) g) hF (bn_l_at hF) sc_l_at (by decide) (fun cdv A outer s H E hr => ?_) (fun _ _ => rfl)
  have tk : Takes (cxOf (L2.CX P w) P w K mg base nm_l_at d_l_at.qual d_l_at.scope (He.fAd K d_l_at.at_) cdv A outer s H E) (fun c dd _ H' => E c dd H') := takes_of rfl rfl rfl rfl
  have po : PassesOwn (model P w) (A.deeper (envOfC d_l_at.qual d_l_at.scope s.heap.objs.size (He.fAd K d_l_at.at_) cdv)) (envOfC d_l_at.qual d_l_at.scope s.heap.objs.size (He.fAd K d_l_at.at_) cdv) (cxOf (L2.CX P w) P w K mg base nm_l_at d_l_at.qual d_l_at.scope (He.fAd K d_l_at.at_) cdv A outer s H E).xe := passes_of rfl
  exact ss_cons (ss_if (st_cmpR op_lt vop_cmp (se_var 1) (se_callB call_lenM vc_len (by rfl) T.z_len (sa_cons (se_var 0) (sa_nil))) (nomark _)) (ss_one (ss_ret (se_ix (hu_of hr) (se_var 0) (se_var 1)))) (ss_nil)) <|
    ss_one (ss_ret (se_int))
set_option maxHeartbeats 4000000 in
theorem ok_l_same (g : Nat) (T : Top K mg) (U : ∀ f : FN, FnA P w K mg base g n f) : FnA P w K mg base g (n + 1) .l_same := by
  obtain ⟨fd, hF⟩ := T.t_l_same
  refine fn_succ (d := d_l_same) (N := nm_l_same) (ps := ps_l_same) (b := Run.b_l_same (Run.callF g n) g) hF (bn_l_same hF) sc_l_same (by decide) (fun cdv A outer s H E hr => ?_) (fun _ _ => rfl)
  have tk : Takes (cxOf (L2.CX P w) P w K mg base nm_l_same d_l_same.qual d_l_same.scope (He.fAd K d_l_same.at_) cdv A outer s H E) (fun c dd _ H' => E c dd H') := takes_of rfl rfl rfl rfl
  have po : PassesOwn (model P w) (A.deeper (envOfC d_l_same.qual d_l_same.scope s.heap.objs.size (He.fAd K d_l_same.at_) cdv)) (envOfC d_l_same.qual d_l_same.scope s.heap.objs.size (He.fAd K d_l_same.at_) cdv) (cxOf (L2.CX P w) P w K mg base nm_l_same d_l_same.qual d_l_same.scope (He.fAd K d_l_same.at_) cdv A outer s H E).xe := passes_of rfl
  exact ss_cons (ss_if (st_truth (se_isi .bool (by rfl) T.z_isinstance (se_var 1) (by rfl) T.z_bool)) (ss_one (ss_ret (se_and (se_isi .bool (by rfl) T.z_isinstance (se_var 0) (by rfl) T.z_bool) (se_one (se_cmpR (op_eqD hr.units) vop_eq (se_var 0) (se_var 1) (nomark _)))))) (ss_nil)) <|
    ss_cons (ss_if (st_truth (se_isi .str (by rfl) T.z_isinstance (se_var 1) (by rfl) T.z_str)) (ss_one (ss_ret (se_and (se_isi .str (by rfl) T.z_isinstance (se_var 0) (by rfl) T.z_str) (se_one (se_cmpR (op_eqD hr.units) vop_eq (se_var 0) (se_var 1) (nomark _)))))) (ss_nil)) <|
    ss_cons (ss_if (st_w (sw_or (st_not (st_truth (se_isi .list (by rfl) T.z_isinstance (se_var 0) (by rfl) T.z_list))) (sw_or1 (st_cmpR (op_neD hr.units) vop_ne (se_callB call_lenM vc_len (by rfl) T.z_len (sa_cons (se_var 0) (sa_nil))) (se_callB call_lenM vc_len (by rfl) T.z_len (sa_cons (se_var 1) (sa_nil))) (nomark _))))) (ss_one (ss_ret (se_bl))) (ss_nil)) <|
    ss_cons (ss_for po rfl (si_rng1 (by rfl) T.z_range (sa_cons (se_callB call_lenM vc_len (by rfl) T.z_len (sa_cons (se_var 1) (sa_nil))) (sa_nil))) (sg_nm sc_l_same.nd) (ss_one (ss_if (st_not (st_truth (se_call (U .l_same) hr tk (by rfl) T.f_l_same (sa_cons (se_ix (hu_of hr) (se_var 0) (se_var 2)) (sa_cons (se_ix (hu_of hr) (se_var 1) (se_var 2)) (sa_nil)))))) (ss_one (ss_ret (se_bl))) (ss_nil)))) <|
    ss_one (ss_ret (se_bl))
set_option maxHeartbeats 4000000 in
theorem ok_l_digits (g : Nat) (T : Top K mg) (U : ∀ f : FN, FnA P w K mg base g n f) : FnA P w K mg base g (n + 1) .l_digits := by
  obtain ⟨fd, hF⟩ := T.t_l_digits
  refine fn_succ (d := d_l_digits) (N := nm_l_digits) (ps := ps_l_digits) (b := Run.b_l_digits (Run.callF g n) g) hF (bn_l_digits hF) sc_l_digits (by decide) (fun cdv A outer s H E hr => ?_) (fun _ _ => rfl)
  have tk : Takes (cxOf (L2.CX P w) P w K mg base nm_l_digits d_l_digits.qual d_l_digits.scope (He.fAd K d_l_digits.at_) cdv A outer s H E) (fun c dd _ H' => E c dd H') := takes_of rfl rfl rfl rfl
  have po : PassesOwn (model P w) (A.deeper (envOfC d_l_digits.qual d_l_digits.scope s.heap.objs.size (He.fAd K d_l_digits.at_) cdv)) (envOfC d_l_digits.qual d_l_digits.scope s.heap.objs.size (He.fAd K d_l_digits.at_) cdv) (cxOf (L2.CX P w) P w K mg base nm_l_digits d_l_digits.qual d_l_digits.scope (He.fAd K d_l_digits.at_) cdv A outer s H E).xe := passes_of rfl
  exact ss_cons (ss_set sc_l_digits.nd (i := 3) (se_lst (sa_nil))) <|
    ss_cons (ss_set sc_l_digits.nd (i := 4) (se_callB call_abs vc_abs (by rfl) T.z_abs (sa_cons (se_var 0) (sa_nil)))) <|
    ss_cons (ss_if (st_cmpR op_ge vop_cmp (se_var 4) (se_bin op_pow (vop_intG okPow_ok) (se_int) (se_int)) (nomark _)) (ss_cons (ss_for po rfl (si_rng1 (by rfl) T.z_range (sa_cons (se_var 1) (sa_nil))) (sg_nm sc_l_digits.nd) (ss_one (ss_if (st_cmpR op_gt vop_cmp (se_var 4) (se_int) (nomark _)) (ss_cons (ss_expr (se_append (se_var 3) (sa_cons (se_bin op_mod (vop_intG okMod_ok) (se_var 4) (se_int)) (sa_nil)))) <|
    ss_one (ss_set sc_l_digits.nd (i := 4) (se_bin op_fdiv (vop_intG okDiv_ok) (se_var 4) (se_int)))) (ss_nil)))) <|
    ss_one (ss_ret (se_var 3))) (ss_nil)) <|
    ss_cons (ss_set sc_l_digits.nd (i := 6) (se_bin op_addM vop_add (se_bin op_addM vop_add (se_bin op_mulM vop_mul (se_var 4) (se_int)) (se_bin op_mulM vop_mul (se_var 2) (se_int))) (se_int))) <|
    ss_cons (ss_for po rfl (si_rng1 (by rfl) T.z_range (sa_cons (se_var 1) (sa_nil))) (sg_nm sc_l_digits.nd) (ss_cons (ss_set sc_l_digits.nd (i := 6) (se_bin op_mod (vop_intG okMod_ok) (se_callT call_int1 vc_int (by rfl) T.z_int (sa_cons (se_bin op_addM vop_add (se_bin op_addM vop_add (se_bin op_mulM vop_mul (se_var 6) (se_int)) (se_int)) (se_var 5)) (sa_nil))) (se_int))) <|
    ss_one (ss_expr (se_append (se_var 3) (sa_cons (se_bin op_mod (vop_intG okMod_ok) (se_bin op_fdiv (vop_intG okDiv_ok) (se_bin op_mod (vop_intG okMod_ok) (se_callT call_int1 vc_int (by rfl) T.z_int (sa_cons (se_bin op_addM vop_add (se_bin op_mulM vop_mul (se_var 6) (se_int)) (se_var 2)) (sa_nil))) (se_int)) (se_int)) (se_int)) (sa_nil)))))) <|
    ss_one (ss_ret (se_var 3))
set_option maxHeartbeats 4000000 in
theorem ok_l_string (g : Nat) (T : Top K mg) (U : ∀ f : FN, FnA P w K mg base g n f) : FnA P w K mg base g (n + 1) .l_string := by
  obtain ⟨fd, hF⟩ := T.t_l_string
  refine fn_succ (d := d_l_string) (N := nm_l_string) (ps := ps_l_string) (b := Run.b_l_string (Run.callF g n) g) hF (bn_l_string hF) sc_l_string (by decide) (fun cdv A outer s H E hr => ?_) (fun _ _ => rfl)
  have tk : Takes (cxOf (L2.CX P w) P w K mg base nm_l_string d_l_string.qual d_l_string.scope (He.fAd K d_l_string.at_) cdv A outer s H E) (fun c dd _ H' => E c dd H') := takes_of rfl rfl rfl rfl
  have po : PassesOwn (model P w) (A.deeper (envOfC d_l_string.qual d_l_string.scope s.heap.objs.size (He.fAd K d_l_string.at_) cdv)) (envOfC d_l_string.qual d_l_string.scope s.heap.objs.size (He.fAd K d_l_string.at_) cdv) (cxOf (L2.CX P w) P w K mg base nm_l_string d_l_string.qual d_l_string.scope (He.fAd K d_l_string.at_) cdv A outer s H E).xe := passes_of rfl
  exact ss_cons (ss_set sc_l_string.nd (i := 1) (se_lst (sa_cons (se_str [118, 48]) (sa_cons (se_str [118, 48]) (sa_cons (se_str [118, 48, 49]) (sa_cons (se_str [86, 51]) (sa_cons (se_str [119, 51]) (sa_cons (se_str []) (sa_cons (se_str [118]) (sa_cons (se_str [51]) (sa_cons (se_str [118, 118, 49]) (sa_cons (se_str [118, 32, 49]) (sa_cons (se_str [118, 49, 32]) (sa_cons (se_str [118, 48, 48]) (sa_cons (se_str [118, 49, 48]) (sa_cons (se_str [86, 48]) (sa_cons (se_str [97, 50, 51, 52, 53, 54, 55, 56]) (sa_nil)))))))))))))))))) <|
    ss_cons (ss_if (st_cmpR op_lt vop_cmp (se_var 0) (se_int) (nomark _)) (ss_one (ss_ret (se_bin op_addM vop_add (se_str [118]) (se_callT call_str_int vc_str (by rfl) T.z_str (sa_cons (se_var 0) (sa_nil)))))) (ss_nil)) <|
    ss_one (ss_ret (se_ix (hu_of hr) (se_var 1) (se_bin op_mod (vop_intG okMod_ok) (se_callT call_int1 vc_int (by rfl) T.z_int (sa_cons (se_var 0) (sa_nil))) (se_int))))
set_option maxHeartbeats 4000000 in
theorem ok_l_word (g : Nat) (T : Top K mg) (U : ∀ f : FN, FnA P w K mg base g n f) : FnA P w K mg base g (n + 1) .l_word := by
  obtain ⟨fd, hF⟩ := T.t_l_word
  refine fn_succ (d := d_l_word) (N := nm_l_word) (ps := ps_l_word) (b := Run.b_l_word (Run.callF g n) g) hF (bn_l_word hF) sc_l_word (by decide) (fun cdv A outer s H E hr => ?_) (fun _ _ => rfl)
  have tk : Takes (cxOf (L2.CX P w) P w K mg base nm_l_word d_l_word.qual d_l_word.scope (He.fAd K d_l_word.at_) cdv A outer s H E) (fun c dd _ H' => E c dd H') := takes_of rfl rfl rfl rfl
  have po : PassesOwn (model P w) (A.deeper (envOfC d_l_word.qual d_l_word.scope s.heap.objs.size (He.fAd K d_l_word.at_) cdv)) (envOfC d_l_word.qual d_l_word.scope s.heap.objs.size (He.fAd K d_l_word.at_) cdv) (cxOf (L2.CX P w) P w K mg base nm_l_word d_l_word.qual d_l_word.scope (He.fAd K d_l_word.at_) cdv A outer s H E).xe := passes_of rfl
  exact ss_cons (ss_set sc_l_word.nd (i := 1) (se_str [97, 98, 99, 100, 101, 102, 103, 104, 105, 106, 107, 108, 109, 110, 111, 112, 113, 114, 115, 116, 117, 118, 119, 120, 121, 122, 48, 49, 50, 51, 52, 53, 54, 55, 56, 57])) <|
    ss_cons (ss_set sc_l_word.nd (i := 2) (se_str [32, 33, 34, 35, 36, 38, 39, 40, 41, 42, 43, 44, 45, 46, 47, 48, 49, 50, 51, 52, 53, 54, 55, 56, 57, 58, 59, 60, 61, 62, 63, 64, 65, 66, 67, 68, 69, 70, 71, 72, 73, 74, 75, 76, 77, 78, 79, 80, 81, 82, 83, 84, 85, 86, 87, 88, 89, 90, 91, 92, 93, 94, 95, 96])) <|
    ss_cons (ss_set sc_l_word.nd (i := 2) (se_bin op_addM vop_add (se_var 2) (se_str [97, 98, 99, 100, 101, 102, 103, 104, 105, 106, 107, 108, 109, 110, 111, 112, 113, 114, 115, 116, 117, 118, 119, 120, 121, 122, 123, 124, 125, 126, 10, 9]))) <|
    ss_cons (ss_set sc_l_word.nd (i := 3) (se_bin op_mod (vop_intG okMod_ok) (se_callT call_int1 vc_int (by rfl) T.z_int (sa_cons (se_call (U .l_at) hr tk (by rfl) T.f_l_at (sa_cons (se_var 0) (sa_cons (se_int) (sa_nil)))) (sa_nil))) (se_int))) <|
    ss_cons (ss_set sc_l_word.nd (i := 4) (se_bin op_mod (vop_intG okMod_ok) (se_callT call_int1 vc_int (by rfl) T.z_int (sa_cons (se_call (U .l_at) hr tk (by rfl) T.f_l_at (sa_cons (se_var 0) (sa_cons (se_int) (sa_nil)))) (sa_nil))) (se_int))) <|
    ss_cons (ss_set sc_l_word.nd (i := 5) (se_bin op_mod (vop_intG okMod_ok) (se_callT call_int1 vc_int (by rfl) T.z_int (sa_cons (se_call (U .l_at) hr tk (by rfl) T.f_l_at (sa_cons (se_var 0) (sa_cons (se_int) (sa_nil)))) (sa_nil))) (se_int))) <|
    ss_cons (ss_set sc_l_word.nd (i := 6) (se_str [])) <|
    ss_cons (ss_for po rfl (si_rng1 (by rfl) T.z_range (sa_cons (se_var 3) (sa_nil))) (sg_nm sc_l_word.nd) (ss_cons (ss_set sc_l_word.nd (i := 8) (se_callT call_int1 vc_int (by rfl) T.z_int (sa_cons (se_call (U .l_at) hr tk (by rfl) T.f_l_at (sa_cons (se_var 0) (sa_cons (se_bin op_addM vop_add (se_int) (se_var 7)) (sa_nil)))) (sa_nil)))) <|
    ss_one (ss_if (st_w (sw_or (st_cmpR (op_eqD hr.units) vop_eq (se_var 4) (se_int) (nomark _)) (sw_or1 (st_w (sw_and (st_cmpR (op_eqD hr.units) vop_eq (se_var 4) (se_int) (nomark _)) (sw_and1 (st_cmpR (op_eqD hr.units) vop_eq (se_var 7) (se_var 5) (nomark _)))))))) (ss_one (ss_set sc_l_word.nd (i := 6) (se_bin op_addM vop_add (se_var 6) (se_ix (hu_of hr) (se_var 2) (se_bin op_mod (vop_intG okMod_ok) (se_var 8) (se_int)))))) (ss_one (ss_set sc_l_word.nd (i := 6) (se_bin op_addM vop_add (se_var 6) (se_ix (hu_of hr) (se_var 1) (se_bin op_mod (vop_intG okMod_ok) (se_var 8) (se_int))))))))) <|
    ss_one (ss_ret (se_var 6))
set_option maxHeartbeats 4000000 in
theorem ok_l_named (g : Nat) (T : Top K mg) (U : ∀ f : FN, FnA P w K mg base g n f) : FnA P w K mg base g (n + 1) .l_named := by
  obtain ⟨fd, hF⟩ := T.t_l_named
  refine fn_succ (d := d_l_named) (N := nm_l_named) (ps := ps_l_named) (b := Run.b_l_named (Run.callF g n) g) hF (bn_l_named hF) sc_l_named (by decide) (fun cdv A outer s H E hr => ?_) (fun _ _ => rfl)
  have tk : Takes (cxOf (L2.CX P w) P w K mg base nm_l_named d_l_named.qual d_l_named.scope (He.fAd K d_l_named.at_) cdv A outer s H E) (fun c dd _ H' => E c dd H') := takes_of rfl rfl rfl rfl
  have po : PassesOwn (model P w) (A.deeper (envOfC d_l_named.qual d_l_named.scope s.heap.objs.size (He.fAd K d_l_named.at_) cdv)) (envOfC d_l_named.qual d_l_named.scope s.heap.objs.size (He.fAd K d_l_named.at_) cdv) (cxOf (L2.CX P w) P w K mg base nm_l_named d_l_named.qual d_l_named.scope (He.fAd K d_l_named.at_) cdv A outer s H E).xe := passes_of rfl
  exact ss_cons (ss_set sc_l_named.nd (i := 1) (se_str [97, 98, 99, 100, 101, 102, 103, 104, 105, 106, 107, 108, 109, 110, 111, 112, 113, 114, 115, 116, 117, 118, 119, 120, 121, 122])) <|
    ss_cons (ss_if (st_w (sw_or (st_cmpR op_lt vop_cmp (se_callB call_lenM vc_len (by rfl) T.z_len (sa_cons (se_var 0) (sa_nil))) (se_int) (nomark _)) (sw_or1 (st_cmpR op_gt vop_cmp (se_callB call_lenM vc_len (by rfl) T.z_len (sa_cons (se_var 0) (sa_nil))) (se_int) (nomark _))))) (ss_one (ss_ret (se_bl))) (ss_nil)) <|
    ss_cons (ss_for po rfl (si_rng1 (by rfl) T.z_range (sa_cons (se_callB call_lenM vc_len (by rfl) T.z_len (sa_cons (se_var 0) (sa_nil))) (sa_nil))) (sg_nm sc_l_named.nd) (ss_one (ss_if (st_w (sw_and (st_cmpR (op_ninA (hu_of hr)) vop_nin (se_ix (hu_of hr) (se_var 0) (se_var 2)) (se_var 1) (by rfl)) (sw_and1 (st_w (sw_or (st_cmpR (op_eqD hr.units) vop_eq (se_var 2) (se_int) (nomark _)) (sw_or1 (st_cmpR (op_ninA (hu_of hr)) vop_nin (se_ix (hu_of hr) (se_var 0) (se_var 2)) (se_str [48, 49, 50, 51, 52, 53, 54, 55, 56, 57]) (by rfl)))))))) (ss_one (ss_ret (se_bl))) (ss_nil)))) <|
    ss_one (ss_ret (se_bl))
set_option maxHeartbeats 4000000 in
theorem ok_l_fresh (g : Nat) (T : Top K mg) (U : ∀ f : FN, FnA P w K mg base g n f) : FnA P w K mg base g (n + 1) .l_fresh := by
  obtain ⟨fd, hF⟩ := T.t_l_fresh
  refine fn_succ (d := d_l_fresh) (N := nm_l_fresh) (ps := ps_l_fresh) (b := Run.b_l_fresh (Run.callF g n) g) hF (bn_l_fresh hF) sc_l_fresh (by decide) (fun cdv A outer s H E hr => ?_) (fun _ _ => rfl)
  have tk : Takes (cxOf (L2.CX P w) P w K mg base nm_l_fresh d_l_fresh.qual d_l_fresh.scope (He.fAd K d_l_fresh.at_) cdv A outer s H E) (fun c dd _ H' => E c dd H') := takes_of rfl rfl rfl rfl
  have po : PassesOwn (model P w) (A.deeper (envOfC d_l_fresh.qual d_l_fresh.scope s.heap.objs.size (He.fAd K d_l_fresh.at_) cdv)) (envOfC d_l_fresh.qual d_l_fresh.scope s.heap.objs.size (He.fAd K d_l_fresh.at_) cdv) (cxOf (L2.CX P w) P w K mg base nm_l_fresh d_l_fresh.qual d_l_fresh.scope (He.fAd K d_l_fresh.at_) cdv A outer s H E).xe := passes_of rfl
  exact ss_cons (ss_set sc_l_fresh.nd (i := 2) (se_lst (sa_nil))) <|
    ss_cons (ss_for po rfl (si_rng1 (by rfl) T.z_range (sa_cons (se_bin op_addM vop_add (se_var 0) (se_callB call_lenM vc_len (by rfl) T.z_len (sa_cons (se_var 1) (sa_nil)))) (sa_nil))) (sg_nm sc_l_fresh.nd) (ss_one (ss_if (st_w (sw_and (st_cmpR op_lt vop_cmp (se_callB call_lenM vc_len (by rfl) T.z_len (sa_cons (se_var 2) (sa_nil))) (se_var 0) (nomark _)) (sw_and1 (st_cmpR (op_ninA (hu_of hr)) vop_nin (se_bin op_addM vop_add (se_str [118]) (se_callT call_str_int vc_str (by rfl) T.z_str (sa_cons (se_var 3) (sa_nil)))) (se_var 1) (by rfl))))) (ss_one (ss_expr (se_append (se_var 2) (sa_cons (se_bin op_addM vop_add (se_str [118]) (se_callT call_str_int vc_str (by rfl) T.z_str (sa_cons (se_var 3) (sa_nil)))) (sa_nil))))) (ss_nil)))) <|
    ss_one (ss_ret (se_var 2))
set_option maxHeartbeats 4000000 in
theorem ok_f_law (g : Nat) (T : Top K mg) (U : ∀ f : FN, FnA P w K mg base g n f) : FnA P w K mg base g (n + 1) .f_law := by
  obtain ⟨fd, hF⟩ := T.t_f_law
  refine fn_succ (d := d_f_law) (N := nm_f_law) (ps := ps_f_law) (b := Run.b_f_law (Run.callF g n) g) hF (bn_f_law hF) sc_f_law (by decide) (fun cdv A outer s H E hr => ?_) (fun _ _ => rfl)
  have tk : Takes (cxOf (L2.CX P w) P w K mg base nm_f_law d_f_law.qual d_f_law.scope (He.fAd K d_f_law.at_) cdv A outer s H E) (fun c dd _ H' => E c dd H') := takes_of rfl rfl rfl rfl
  have po : PassesOwn (model P w) (A.deeper (envOfC d_f_law.qual d_f_law.scope s.heap.objs.size (He.fAd K d_f_law.at_) cdv)) (envOfC d_f_law.qual d_f_law.scope s.heap.objs.size (He.fAd K d_f_law.at_) cdv) (cxOf (L2.CX P w) P w K mg base nm_f_law d_f_law.qual d_f_law.scope (He.fAd K d_f_law.at_) cdv A outer s H E).xe := passes_of rfl
  exact ss_cons (ss_set sc_f_law.nd (i := 1) (se_callT call_int1 vc_int (by rfl) T.z_int (sa_cons (se_call (U .l_cell) hr tk (by rfl) T.f_l_cell (sa_cons (se_var 0) (sa_cons (se_int) (sa_nil)))) (sa_nil)))) <|
    ss_cons (ss_set sc_f_law.nd (i := 2) (se_bin op_addM vop_add (se_bin op_mod (vop_intG okMod_ok) (se_var 1) (se_int)) (se_bin op_mulM vop_mul (se_int) (se_callT call_int1 vc_int (by rfl) T.z_int (sa_cons (se_cmpR (op_eqD hr.units) vop_eq (se_bin op_mod (vop_intG okMod_ok) (se_bin op_fdiv (vop_intG okDiv_ok) (se_var 1) (se_int)) (se_int)) (se_int) (nomark _)) (sa_nil)))))) <|
    ss_cons (ss_set sc_f_law.nd (i := 3) (se_bin op_mod (vop_intG okMod_ok) (se_callT call_int1 vc_int (by rfl) T.z_int (sa_cons (se_call (U .l_cell) hr tk (by rfl) T.f_l_cell (sa_cons (se_var 0) (sa_cons (se_int) (sa_nil)))) (sa_nil))) (se_int))) <|
    ss_cons (ss_set sc_f_law.nd (i := 4) (se_call (U .l_digits) hr tk (by rfl) T.f_l_digits (sa_cons (se_call (U .l_cell) hr tk (by rfl) T.f_l_cell (sa_cons (se_var 0) (sa_cons (se_int) (sa_nil)))) (sa_cons (se_int) (sa_cons (se_int) (sa_nil)))))) <|
    ss_cons (ss_setLc (j := 5) (own := [("digit", 6)]) (sl := [6]) rfl sc_f_law.nd (sw_true rfl rfl rfl (by decide +kernel)) (si_seq (se_slice (se_var 4) (so_none) (so_some (se_var 3)))) (blkOk_by (own := [("digit", 6)]) (N := nm_f_law) (sc := d_f_law.scope) (by decide +kernel)) (fun _ _ _ _ _ => sg_nm sc_f_law.nd) (fun _ _ _ _ _ => sts_nil) (fun _ _ _ _ _ => se_call (U .l_string) hr takes0 (by rfl) T.f_l_string (sa_cons (se_var 6) (sa_nil)))) <|
    ss_cons (ss_set sc_f_law.nd (i := 7) (se_callT call_list_of vc_list (by rfl) T.z_list (sa_cons (se_var 5) (sa_nil)))) <|
    ss_cons (ss_set sc_f_law.nd (i := 8) (se_call (U .l_fresh) hr tk (by rfl) T.f_l_fresh (sa_cons (se_var 2) (sa_cons (se_var 7) (sa_nil))))) <|
    ss_cons (ss_set sc_f_law.nd (i := 9) (se_call (U .fresh_names) hr tk (by rfl) T.f_fresh_names (sa_cons (se_var 2) (sa_cons (se_var 5) (sa_nil))))) <|
    ss_cons (ss_if (st_w (sw_or (st_not (st_truth (se_call (U .l_same) hr tk (by rfl) T.f_l_same (sa_cons (se_var 9) (sa_cons (se_var 8) (sa_nil)))))) (sw_or1 (st_not (st_truth (se_call (U .l_same) hr tk (by rfl) T.f_l_same (sa_cons (se_var 5) (sa_cons (se_var 7) (sa_nil))))))))) (ss_one (ss_ret (se_bl))) (ss_nil)) <|
    ss_cons (ss_expr (se_append (se_var 9) (sa_cons (se_str [119]) (sa_nil)))) <|
    ss_cons (ss_if (st_w (sw_or (st_not (st_truth (se_call (U .l_same) hr tk (by rfl) T.f_l_same (sa_cons (se_call (U .fresh_names) hr tk (by rfl) T.f_fresh_names (sa_cons (se_var 2) (sa_cons (se_callT call_tuple_of vc_tup (by rfl) T.z_tuple (sa_cons (se_var 7) (sa_nil))) (sa_nil)))) (sa_cons (se_var 8) (sa_nil)))))) (sw_or1 (st_not (st_truth (se_call (U .l_same) hr tk (by rfl) T.f_l_same (sa_cons (se_call (U .fresh_names) hr tk (by rfl) T.f_fresh_names (sa_cons (se_var 2) (sa_cons (se_var 5) (sa_nil)))) (sa_cons (se_var 8) (sa_nil))))))))) (ss_one (ss_ret (se_bl))) (ss_nil)) <|
    ss_cons (ss_setLc (j := 10) (own := [("k", 11)]) (sl := [11]) rfl sc_f_law.nd (sw_true rfl rfl rfl (by decide +kernel)) (si_rng1 (by rfl) T.z_range (sa_cons (se_int) (sa_nil))) (blkOk_by (own := [("k", 11)]) (N := nm_f_law) (sc := d_f_law.scope) (by decide +kernel)) (fun _ _ _ _ _ => sg_nm sc_f_law.nd) (fun _ _ _ _ _ => sts_nil) (fun _ _ _ _ _ => se_call (U .l_word) hr takes0 (by rfl) T.f_l_word (sa_cons (se_call (U .l_digits) hr takes0 (by rfl) T.f_l_digits (sa_cons (se_call (U .l_cell) hr takes0 (by rfl) T.f_l_cell (sa_cons (se_var 0) (sa_cons (se_bin op_addM vop_add (se_int) (se_var 11)) (sa_nil)))) (sa_cons (se_int) (sa_cons (se_bin op_addM vop_add (se_int) (se_var 11)) (sa_nil))))) (sa_nil)))) <|
    ss_cons (ss_for po rfl (si_seq (se_bin op_addM vop_add (se_bin op_addM vop_add (se_var 10) (se_slice (se_var 7) (so_none) (so_some (se_int)))) (se_slice (se_var 8) (so_some (se_neg (se_int))) (so_none)))) (sg_nm sc_f_law.nd) (ss_one (ss_if (st_not (st_truth (se_call (U .l_same) hr tk (by rfl) T.f_l_same (sa_cons (se_call (U .is_name) hr tk (by rfl) T.f_is_name (sa_cons (se_var 12) (sa_nil))) (sa_cons (se_call (U .l_named) hr tk (by rfl) T.f_l_named (sa_cons (se_var 12) (sa_nil))) (sa_nil)))))) (ss_one (ss_ret (se_bl))) (ss_nil)))) <|
    ss_one (ss_ret (se_bl))
theorem all_ok (g : Nat) (T : Top K mg) : ∀ (n : Nat) (f : FN), FnA P w K mg base g n f
  | 0, .is_name => let ⟨_, hF⟩ := T.t_is_name; fn_zero (d := d_is_name) hF (bn_is_name hF) fun _ _ => rfl
  | 0, .fresh_names => let ⟨_, hF⟩ := T.t_fresh_names; fn_zero (d := d_fresh_names) hF (bn_fresh_names hF) fun _ _ => rfl
  | 0, .l_cell => let ⟨_, hF⟩ := T.t_l_cell; fn_zero (d := d_l_cell) hF (bn_l_cell hF) fun _ _ => rfl
  | 0, .l_at => let ⟨_, hF⟩ := T.t_l_at; fn_zero (d := d_l_at) hF (bn_l_at hF) fun _ _ => rfl
  | 0, .l_same => let ⟨_, hF⟩ := T.t_l_same; fn_zero (d := d_l_same) hF (bn_l_same hF) fun _ _ => rfl
  | 0, .l_digits => let ⟨_, hF⟩ := T.t_l_digits; fn_zero (d := d_l_digits) hF (bn_l_digits hF) fun _ _ => rfl
  | 0, .l_string => let ⟨_, hF⟩ := T.t_l_string; fn_zero (d := d_l_string) hF (bn_l_string hF) fun _ _ => rfl
  | 0, .l_word => let ⟨_, hF⟩ := T.t_l_word; fn_zero (d := d_l_word) hF (bn_l_word hF) fun _ _ => rfl
  | 0, .l_named => let ⟨_, hF⟩ := T.t_l_named; fn_zero (d := d_l_named) hF (bn_l_named hF) fun _ _ => rfl
  | 0, .l_fresh => let ⟨_, hF⟩ := T.t_l_fresh; fn_zero (d := d_l_fresh) hF (bn_l_fresh hF) fun _ _ => rfl
  | 0, .f_law => let ⟨_, hF⟩ := T.t_f_law; fn_zero (d := d_f_law) hF (bn_f_law hF) fun _ _ => rfl
  | n + 1, .is_name => ok_is_name g T fun f => all_ok g T n f
  | n + 1, .fresh_names => ok_fresh_names g T fun f => all_ok g T n f
  | n + 1, .l_cell => ok_l_cell g T fun f => all_ok g T n f
  | n + 1, .l_at => ok_l_at g T fun f => all_ok g T n f
  | n + 1, .l_same => ok_l_same g T fun f => all_ok g T n f
  | n + 1, .l_digits => ok_l_digits g T fun f => all_ok g T n f
  | n + 1, .l_string => ok_l_string g T fun f => all_ok g T n f
  | n + 1, .l_word => ok_l_word g T fun f => all_ok g T n f
  | n + 1, .l_named => ok_l_named g T fun f => all_ok g T n f
  | n + 1, .l_fresh => ok_l_fresh g T fun f => all_ok g T n f
  | n + 1, .f_law => ok_f_law g T fun f => all_ok g T n f
end
/-! ### the head -/
def fnL : List He.DefD := [d_is_name, d_fresh_names, d_l_cell, d_l_at, d_l_same, d_l_digits, d_l_string, d_l_word, d_l_named, d_l_fresh, d_f_law]
def faL : List He.Fa := [.glo "is_name", .glo "fresh_names", .glo "_law_cell", .glo "_law_at", .glo "_law_same", .glo "_law_digits", .glo "_law_string", .glo "_law_word", .glo "_law_named", .glo "_law_fresh", .glo "law", .free "abs", .free "bool", .free "int", .free "isinstance", .free "len", .free "list", .free "range", .free "str", .free "tuple", .str "DIGITS" "0123456789", .str "LETTERS" "abcdefghijklmnopqrstuvwxyz", .int "LONGEST" (8)]
abbrev RR : PySem.W.OpenRow := PySem.W.OpenLaw.row PySem.Challenge.rw_drawnonce_k00_fresh_names
abbrev hkL : PySem.W.Hook := He.hookD 4 faL fnL
def obL (s : PySem.W.SharedT) : He.AlD := He.obsDG 4 faL fnL (HandSHeadRun.getT s)
theorem obL_eq (s : PySem.W.SharedT) : obL s = hkL.obs s.abs := He.obsDG_eq (HandSHeadRun.getT_eq s)
def looseL : List Str := ["LETTERS", "DIGITS", "LONGEST", "is_name", "fresh_names", "_law_cell", "_law_at", "_law_same", "_law_digits", "_law_string", "_law_word", "_law_named", "_law_fresh"]
theorem runL (w : World) : HandSHeadRun.RunEq RR (PySem.W.view RR.prog [15]) hkL obL 600 looseL w := by
  intro os
  kernel_rfl
theorem top_of {K : PySem.W.Frag} {h : Heap} {mg : Str → Option Value} (X : K.In h) (G : h.Ns mainGlobals mg) (c : He.SaysD faL fnL K) : Top K mg where
  z_abs := He.free_ok X G (c.fact 11 (f := .free "abs") rfl)
  z_bool := He.free_ok X G (c.fact 12 (f := .free "bool") rfl)
  z_int := He.free_ok X G (c.fact 13 (f := .free "int") rfl)
  z_isinstance := He.free_ok X G (c.fact 14 (f := .free "isinstance") rfl)
  z_len := He.free_ok X G (c.fact 15 (f := .free "len") rfl)
  z_list := He.free_ok X G (c.fact 16 (f := .free "list") rfl)
  z_range := He.free_ok X G (c.fact 17 (f := .free "range") rfl)
  z_str := He.free_ok X G (c.fact 18 (f := .free "str") rfl)
  z_tuple := He.free_ok X G (c.fact 19 (f := .free "tuple") rfl)
  g_DIGITS := He.str_ok X G (c.fact 20 (f := .str "DIGITS" "0123456789") rfl)
  g_LETTERS := He.str_ok X G (c.fact 21 (f := .str "LETTERS" "abcdefghijklmnopqrstuvwxyz") rfl)
  g_LONGEST := He.int_ok X G (c.fact 22 (f := .int "LONGEST" (8)) rfl)
  f_is_name := He.glo_ok X G (c.fact 0 (f := .glo "is_name") rfl)
  t_is_name := c.def_ 0 (d := d_is_name) rfl
  f_fresh_names := He.glo_ok X G (c.fact 1 (f := .glo "fresh_names") rfl)
  t_fresh_names := c.def_ 1 (d := d_fresh_names) rfl
  f_l_cell := He.glo_ok X G (c.fact 2 (f := .glo "_law_cell") rfl)
  t_l_cell := c.def_ 2 (d := d_l_cell) rfl
  f_l_at := He.glo_ok X G (c.fact 3 (f := .glo "_law_at") rfl)
  t_l_at := c.def_ 3 (d := d_l_at) rfl
  f_l_same := He.glo_ok X G (c.fact 4 (f := .glo "_law_same") rfl)
  t_l_same := c.def_ 4 (d := d_l_same) rfl
  f_l_digits := He.glo_ok X G (c.fact 5 (f := .glo "_law_digits") rfl)
  t_l_digits := c.def_ 5 (d := d_l_digits) rfl
  f_l_string := He.glo_ok X G (c.fact 6 (f := .glo "_law_string") rfl)
  t_l_string := c.def_ 6 (d := d_l_string) rfl
  f_l_word := He.glo_ok X G (c.fact 7 (f := .glo "_law_word") rfl)
  t_l_word := c.def_ 7 (d := d_l_word) rfl
  f_l_named := He.glo_ok X G (c.fact 8 (f := .glo "_law_named") rfl)
  t_l_named := c.def_ 8 (d := d_l_named) rfl
  f_l_fresh := He.glo_ok X G (c.fact 9 (f := .glo "_law_fresh") rfl)
  t_l_fresh := c.def_ 9 (d := d_l_fresh) rfl
  f_f_law := He.glo_ok X G (c.fact 10 (f := .glo "law") rfl)
  t_f_law := c.def_ 10 (d := d_f_law) rfl

section
open Run
variable {g n : Nat} {h : Hst}
theorem cS (g n : Nat) (f : FN) (ds : List D) (h : Hst) : callF g (n + 1) f ds h = runF (ns f) (body (callF g n) g f) ds h := rfl
theorem cell_ok (hn : 0 < n) (xs : List Int) (k : Int) (hk : 0 ≤ k) : callF g n .l_cell [.sl (xs.map .int), .int k] h = .ok (.int (atZ xs k)) h := by
  obtain ⟨n, rfl⟩ : ∃ m, n = m + 1 := ⟨n - 1, by omega⟩
  exact run_cellI xs k hk h
theorem at_ok (hn : 0 < n) (xs : List Int) (k : Int) (hk : 0 ≤ k) {a : Nat} (e : h[a]? = some (.lst (xs.map .int))) : callF g n .l_at [.ref a, .int k] h = .ok (.int (atZ xs k)) h := by
  obtain ⟨n, rfl⟩ : ∃ m, n = m + 1 := ⟨n - 1, by omega⟩
  exact run_atI xs k hk a h e
theorem digits_ok (g : Nat) (h : Hst) (hn : 0 < n) (c salt : Int) (many : Nat) (hm : many ≤ 1000000) : ∃ ds : List Int, ds.length ≤ many ∧ (∀ d ∈ ds, 0 ≤ d ∧ d < 120) ∧ callF g n .l_digits [.int c, .int many, .int salt] h = .ok (.ref h.length) (h ++ [.lst (ds.map .int)]) := by
  obtain ⟨n, rfl⟩ : ∃ m, n = m + 1 := ⟨n - 1, by omega⟩
  exact run_digits 120 (by decide) (by decide) c salt many hm h
theorem string_ok (g : Nat) (h : Hst) (hn : 0 < n) (d : Int) (h0 : 0 ≤ d) (h1 : d < 120) : ∃ s, callF g n .l_string [.int d] h = .ok (.str s) h := by
  obtain ⟨n, rfl⟩ : ∃ m, n = m + 1 := ⟨n - 1, by omega⟩
  rw [cS]
  unfold runF
  obtain ⟨s, _, hs⟩ := atI_ex (xs := [[118, 48], [118, 48], [118, 48, 49], [86, 51], [119, 51], [], [118], [51], [118, 118, 49], [118, 32, 49], [118, 49, 32], [118, 48, 48], [118, 49, 48], [86, 48], [97, 50, 51, 52, 53, 54, 55, 56]]) (i := d % 15) (by omega) (by simp; omega)
  have hs2 := congrArg (Option.map D.str) hs
  rw [← atI_map] at hs2
  by_cases hd : d < 90
  · have hl : (decI d).length ≤ 62 := decI_len (by omega)
    refine ⟨[118] ++ decI d, ?_⟩
    simp [body, b_l_string, ns, hd]
    rw [strC_int _ (by omega)]
    simp
    rw [addD_str _ (by simp; omega)]
    simp
    exact finish_drop _ _ _ rfl
  · refine ⟨s, ?_⟩
    simp [body, b_l_string, ns, hd]
    simp [ixD]
    simp at hs2
    rw [hs2]
    simp
    exact finish_drop _ _ _ rfl
theorem word_ok (g : Nat) (hn : 1 < n) (xs : List Int) {a : Nat} (e : h[a]? = some (.lst (xs.map .int))) : ∃ s, callF g n .l_word [.ref a] h = .ok (.str s) h := by
  obtain ⟨n, rfl⟩ : ∃ m, n = m + 1 := ⟨n - 1, by omega⟩
  have hn : 0 < n := by omega
  rw [cS]
  unfold runF
  obtain ⟨pl, hpl⟩ : ∃ l : List Nat, l = [97, 98, 99, 100, 101, 102, 103, 104, 105, 106, 107, 108, 109, 110, 111, 112, 113, 114, 115, 116, 117, 118, 119, 120, 121, 122, 48, 49, 50, 51, 52, 53, 54, 55, 56, 57] := ⟨_, rfl⟩
  have lpl : pl.length = 36 := by rw [hpl]; rfl
  obtain ⟨ev, hev⟩ : ∃ l : List Nat, l = [32, 33, 34, 35, 36, 38, 39, 40, 41, 42, 43, 44, 45, 46, 47, 48, 49, 50, 51, 52, 53, 54, 55, 56, 57, 58, 59, 60, 61, 62, 63, 64, 65, 66, 67, 68, 69, 70, 71, 72, 73, 74, 75, 76, 77, 78, 79, 80, 81, 82, 83, 84, 85, 86, 87, 88, 89, 90, 91, 92, 93, 94, 95, 96] ++ [97, 98, 99, 100, 101, 102, 103, 104, 105, 106, 107, 108, 109, 110, 111, 112, 113, 114, 115, 116, 117, 118, 119, 120, 121, 122, 123, 124, 125, 126, 10, 9] := ⟨_, rfl⟩
  have lev : ev.length = 96 := by rw [hev]; rfl
  have hadd : addD (.str [32, 33, 34, 35, 36, 38, 39, 40, 41, 42, 43, 44, 45, 46, 47, 48, 49, 50, 51, 52, 53, 54, 55, 56, 57, 58, 59, 60, 61, 62, 63, 64, 65, 66, 67, 68, 69, 70, 71, 72, 73, 74, 75, 76, 77, 78, 79, 80, 81, 82, 83, 84, 85, 86, 87, 88, 89, 90, 91, 92, 93, 94, 95, 96]) (.str [97, 98, 99, 100, 101, 102, 103, 104, 105, 106, 107, 108, 109, 110, 111, 112, 113, 114, 115, 116, 117, 118, 119, 120, 121, 122, 123, 124, 125, 126, 10, 9]) h = .ok (.str ev) h := by
    rw [hev, addD_str _ (by decide)]
  have hat : ∀ k : Int, 0 ≤ k → callF g n .l_at [.ref a, .int k] h = .ok (.int (atZ xs k)) h := fun k hk => at_ok hn xs k hk e
  simp only [body, b_l_word, ns, ← hpl]
  generalize hm : atZ xs 0 % 11 = m
  generalize hst : atZ xs 1 % 4 = st
  generalize hod : atZ xs 2 % 10 = od
  obtain ⟨en', h', e', x7, x8, w, h1, h2, h3⟩ := forL_end (chk := none) (g := gNm 7) (b := (sSeq (sSet 8 (vCall intC (aCons (vF 2 ((callF g n) .l_at) (aCons (vVar 0) (aCons (vB addD (vC (.int 3)) (vVar 7)) (aNil)))) (aNil)))) <|
    sIf (tOrE (tV (vB eqD (vVar 4) (vC (.int 0)))) (tAndE (tV (vB eqD (vVar 4) (vC (.int 1)))) (tV (vB eqD (vVar 7) (vVar 5))))) (sSet 6 (vB addD (vVar 6) (vB ixD (vVar 2) (vB modD (vVar 8) (vC (.int 96)))))) (sSet 6 (vB addD (vVar 6) (vB ixD (vVar 1) (vB modD (vVar 8) (vC (.int 36)))))))) (rngD 0 m.toNat)
    (fun i en h' => ∃ (x7 x8 : Option D) (w : List Nat), en = [some (.ref a), some (.str pl), some (.str ev), some (.int m), some (.int st), some (.int od), some (.str w), x7, x8] ∧ h' = h ∧ w.length ≤ i)
    [some (.ref a), some (.str pl), some (.str ev), some (.int m), some (.int st), some (.int od), some (.str []), none, none] h ⟨none, none, [], rfl, rfl, Nat.le_refl _⟩ (fun _ _ _ _ _ => trivial)
    (fun i x en h' hx ⟨x7, x8, w, h1, h2, h3⟩ => by
      obtain ⟨hi, rfl⟩ := range_get hx
      subst h1 h2
      refine ⟨_, rfl, ?_⟩
      simp [hat]
      rw [hat _ (by omega)]
      simp
      generalize atZ xs (3 + (i : Int)) = z
      obtain ⟨c1, _, hc1⟩ := atI_ex (xs := ev) (i := z % 96) (by omega) (by omega)
      obtain ⟨c2, _, hc2⟩ := atI_ex (xs := pl) (i := z % 36) (by omega) (by omega)
      have two : ∀ c : Nat, (bindS (addD (.str w) (.str [c]) h') [some (.ref a), some (.str pl), some (.str ev), some (.int m), some (.int st), some (.int od), some (.str w), some (.int (i : Int)), some (.int z)] fun d h1 => .nx [some (.ref a), some (.str pl), some (.str ev), some (.int m), some (.int st), some (.int od), some d, some (.int (i : Int)), some (.int z)] h1).sat (fun en h2 => ∃ (x7 x8 : Option D) (w : List Nat), en = [some (.ref a), some (.str pl), some (.str ev), some (.int m), some (.int st), some (.int od), some (.str w), x7, x8] ∧ h2 = h' ∧ w.length ≤ i + 1) (fun _ _ => False) := fun c => by
        rw [addD_str _ (by simp; omega)]
        exact ⟨_, _, _, rfl, rfl, by simp; omega⟩
      rcases Bool.eq_false_or_eq_true (st == 0) with q | q <;> rcases Bool.eq_false_or_eq_true (st == 1) with q2 | q2 <;> rcases Bool.eq_false_or_eq_true ((i : Int) == od) with q3 | q3 <;> simp only [q, q2, q3, bindS_ok, ixD_str _ hc1, ixD_str _ hc2, bind_ok] <;> exact two _)
  subst h1 h2
  refine ⟨w, ?_⟩
  simp [hadd, hat, hm, hst, hod, rng1K_int (j := m) _ (by omega) (by omega), e']

theorem same_str (s t : List Nat) (hn : 0 < n) : callF g n .l_same [.str s, .str t] h = .ok (.bl (decide (s = t))) h := by
  obtain ⟨n, rfl⟩ : ∃ m, n = m + 1 := ⟨n - 1, by omega⟩
  rw [cS]
  unfold runF
  simp [body, b_l_same, ns, tyD, isTy]
theorem same_bl (s t : Bool) (hn : 0 < n) : callF g n .l_same [.bl s, .bl t] h = .ok (.bl (s == t)) h := by
  obtain ⟨n, rfl⟩ : ∃ m, n = m + 1 := ⟨n - 1, by omega⟩
  rw [cS]
  unfold runF
  simp [body, b_l_same, ns, tyD, isTy]
theorem same_strs (ss : List (List Nat)) {a b : Nat} (hn : 1 < n) (hl : ss.length ≤ 16777216) (ha : h[a]? = some (.lst (ss.map .str))) (hb : h[b]? = some (.lst (ss.map .str))) : callF g n .l_same [.ref a, .ref b] h = .ok (.bl true) h := by
  obtain ⟨n, rfl⟩ : ∃ m, n = m + 1 := ⟨n - 1, by omega⟩
  have hn : 0 < n := by omega
  rw [cS]
  unfold runF
  obtain ⟨en', h', e', x, h1, h2⟩ := forL_end (chk := none) (g := gNm 2) (b := (sIf (tNotE (tTru (vF 2 ((callF g n) .l_same) (aCons (vB ixD (vVar 0) (vVar 2)) (aCons (vB ixD (vVar 1) (vVar 2)) (aNil)))))) (sRet (vC (.bl false))) (sNil))) (rngD 0 ss.length)
    (fun i en h' => ∃ x : Option D, en = [some (.ref a), some (.ref b), x] ∧ h' = h) [some (.ref a), some (.ref b), none] h ⟨none, rfl, rfl⟩ (fun _ _ _ _ _ => trivial)
    (fun i x en h' hx ⟨y, h1, h2⟩ => by
      obtain ⟨hi, rfl⟩ := range_get hx
      subst h1
      rw [h2]
      refine ⟨_, rfl, ?_⟩
      have hs : atI (ss.map D.str) (i : Int) = some (.str ss[i]) := by rw [atI_nat]; simp [hi]
      simp [ixD_lst ha hs, ixD_lst hb hs, same_str _ _ hn]
      exact ⟨⟨_, rfl⟩, rfl⟩)
  rw [h1, h2] at e'
  simp [body, b_l_same, ns, tyD_lst ha, tyD_lst hb, isTy, lenD_lst ha, lenD_lst hb, rng1K_nat (j := ss.length) _ (by omega), e']

abbrev LL : List Nat := [97, 98, 99, 100, 101, 102, 103, 104, 105, 106, 107, 108, 109, 110, 111, 112, 113, 114, 115, 116, 117, 118, 119, 120, 121, 122]
abbrev DG : List Nat := [48, 49, 50, 51, 52, 53, 54, 55, 56, 57]
theorem is_name_ok (g : Nat) (h : Hst) (s : List Nat) (hn : 0 < n) : ∃ b, callF g n .is_name [.str s] h = .ok (.bl b) h ∧ callF g n .l_named [.str s] h = .ok (.bl b) h := by
  obtain ⟨n, rfl⟩ : ∃ m, n = m + 1 := ⟨n - 1, by omega⟩
  rw [cS, cS]
  unfold runF
  obtain ⟨L, hL⟩ : ∃ l : List Nat, l = LL := ⟨_, rfl⟩
  obtain ⟨G, hG⟩ : ∃ l : List Nat, l = DG := ⟨_, rfl⟩
  by_cases hl : 1 ≤ s.length ∧ s.length ≤ 8
  · obtain ⟨h1, h8⟩ := hl
    obtain ⟨c0, e0⟩ : ∃ c0, s[0]? = some c0 := ⟨s[0], by simp⟩
    have hz : atI s 0 = some c0 := by have := atI_nat s 0; rw [e0] at this; exact this
    have A := forL_all (chk := none) (g := gNm 1) (b := (sIf (tAndE (tV (vB ninD (vVar 1) (vC (.str LL)))) (tV (vB ninD (vVar 1) (vC (.str DG))))) (sRet (vC (.bl false))) (sNil))) (r := .bl false) (h := h) trivial (signs s) (fun i => decide (s.getD i 0 ∈ L) || decide (s.getD i 0 ∈ G))
      (fun en => ∃ x, en = [some (.str s), x]) [some (.str s), none] ⟨none, rfl⟩ (fun i x en hx ⟨y, h1⟩ => by
        unfold signs at hx
        rw [List.getElem?_map] at hx
        obtain ⟨c, hc, rfl⟩ := Option.map_eq_some_iff.mp hx
        subst h1
        refine ⟨_, rfl, ?_⟩
        rw [List.getD_eq_getElem?_getD, hc, ← hL, ← hG]
        by_cases q1 : c ∈ L <;> by_cases q2 : c ∈ G <;> simp [q1, q2])
    have B := forL_all (chk := none) (g := gNm 2) (b := (sIf (tAndE (tV (vB ninD (vB ixD (vVar 0) (vVar 2)) (vVar 1))) (tOrE (tV (vB eqD (vVar 2) (vC (.int 0)))) (tV (vB ninD (vB ixD (vVar 0) (vVar 2)) (vC (.str DG)))))) (sRet (vC (.bl false))) (sNil))) (r := .bl false) (h := h) trivial (rngD 0 s.length) (fun i => decide (s.getD i 0 ∈ L) || (decide (i ≠ 0) && decide (s.getD i 0 ∈ G)))
      (fun en => ∃ x, en = [some (.str s), some (.str L), x]) [some (.str s), some (.str L), none] ⟨none, rfl⟩ (fun i x en hx ⟨y, h1⟩ => by
        obtain ⟨hi, rfl⟩ := range_get hx
        subst h1
        refine ⟨_, rfl, ?_⟩
        have hs : atI s (i : Int) = some s[i] := by rw [atI_nat]; simp [hi]
        rw [List.getD_eq_getElem?_getD, List.getElem?_eq_getElem hi, ← hG]
        generalize s[i] = c at hs
        by_cases q3 : i = 0
        · subst q3
          have hs : atI s 0 = some c := hs
          by_cases q1 : c ∈ L <;> by_cases q2 : c ∈ G <;> simp [ixD_str _ hs, q1, q2]
        · have q4 : ((i : Int) == 0) = false := by simpa using q3
          by_cases q1 : c ∈ L <;> by_cases q2 : c ∈ G <;> simp [ixD_str _ hs, q1, q2, q3, q4])
    have sl : (signs s).length = s.length := by simp [signs]
    rw [sl] at A
    rw [rngD_len] at B
    have n1 : ¬ (s.length : Int) < 1 := by omega
    have n8 : ¬ (8 : Int) < s.length := by omega
    have p1 : (1 : Int) ≤ s.length := by omega
    have p8 : (s.length : Int) ≤ 8 := by omega
    have rg : s.length ≤ 4611686018427387903 := by omega
    simp only [← hL, ← hG] at A B
    simp only [body, b_is_name, b_l_named, ns, ← hL, ← hG]
    by_cases ok0 : c0 ∈ L
    · by_cases okA : ∀ i, i < s.length → (decide (s.getD i 0 ∈ L) || decide (s.getD i 0 ∈ G)) = true
      · obtain ⟨e1, A, x, q⟩ := A.1 okA
        obtain ⟨e2, B, y, q2⟩ := B.1 fun i hi => by
          have := okA i hi
          by_cases i0 : i = 0
          · subst i0; rw [List.getD_eq_getElem?_getD, e0]; simp [ok0]
          · simpa [i0] using this
        refine ⟨true, ?_, ?_⟩
        · simp [iterD, ixD_str _ hz, ok0, A, p1, p8]
        · simp [n1, n8, rng1K_nat (j := s.length) _ (by omega), B]
      · obtain ⟨i, hi⟩ := Classical.not_forall.mp okA
        obtain ⟨hi, hf⟩ := Classical.not_imp.mp hi
        have hf : (decide (s.getD i 0 ∈ L) || decide (s.getD i 0 ∈ G)) = false := by simpa using hf
        have A := A.2 ⟨i, hi, hf⟩
        have B := B.2 ⟨i, hi, by
          rw [Bool.or_eq_false_iff] at hf
          rw [hf.1, hf.2]; simp⟩
        refine ⟨false, ?_, ?_⟩
        · simp [iterD, ixD_str _ hz, ok0, A, p1, p8]
        · simp [n1, n8, rng1K_nat (j := s.length) _ (by omega), B]
    · have B := B.2 ⟨0, by omega, by rw [List.getD_eq_getElem?_getD, e0]; simp [ok0]⟩
      refine ⟨false, ?_, ?_⟩
      · simp [iterD, ixD_str _ hz, ok0, p1, p8]
      · simp [n1, n8, rng1K_nat (j := s.length) _ (by omega), B]
  · refine ⟨false, ?_, ?_⟩
    · by_cases p1 : (1 : Int) ≤ s.length
      · have p8 : ¬ (s.length : Int) ≤ 8 := by omega
        simp [body, b_is_name, ns, p1, p8]
      · simp [body, b_is_name, ns, p1]
    · by_cases p1 : (s.length : Int) < 1
      · simp [body, b_l_named, ns, p1]
      · have p8 : (8 : Int) < s.length := by omega
        simp [body, b_l_named, ns, p1, p8]

/-- the names v0, v1 .. that are free among the first N -/
def nmN (k : Nat) : List Nat := 118 :: decI k
def freeN (ts : List (List Nat)) (N : Nat) : List (List Nat) := ((List.range N).map nmN).filter fun s => !ts.contains s
theorem freeN_succ (ts : List (List Nat)) (N : Nat) : freeN ts (N + 1) = freeN ts N ++ if ts.contains (nmN N) then [] else [nmN N] := by
  unfold freeN
  rw [List.range_succ, List.map_append, List.filter_append]
  congr 1
  by_cases q : nmN N ∈ ts <;> simp [q]
theorem freeN_mono (ts : List (List Nat)) (N : Nat) : ∀ k, ∃ l, freeN ts (N + k) = freeN ts N ++ l
  | 0 => ⟨[], by simp⟩
  | k + 1 => by
    obtain ⟨l, e⟩ := freeN_mono ts N k
    rw [← Nat.add_assoc, freeN_succ, e, List.append_assoc]
    exact ⟨_, rfl⟩
theorem freeN_len_le (ts : List (List Nat)) (N : Nat) : (freeN ts N).length ≤ N := by
  unfold freeN
  exact Nat.le_trans (List.length_filter_le _ _) (by simp)
theorem nmN_inj {i j : Nat} (e : nmN i = nmN j) : i = j := decI_inj (List.cons.inj e).2
theorem count_one (t : List Nat) : ∀ N, (((List.range N).map nmN).filter fun s => decide (s = t)).length ≤ 1
  | 0 => by simp
  | N + 1 => by
    rw [List.range_succ, List.map_append, List.filter_append, List.length_append]
    by_cases q : nmN N = t
    · have : ((List.range N).map nmN).filter (fun s => decide (s = t)) = [] := by
        rw [List.filter_eq_nil_iff]
        intro s hs
        obtain ⟨k, hk, rfl⟩ := List.mem_map.mp hs
        rw [List.mem_range] at hk
        simp only [decide_eq_true_eq]
        intro e
        have := nmN_inj (e.trans q.symm)
        omega
      rw [this]
      simp [q]
    · have := count_one t N
      simp [q]
      exact this
theorem used_le (ts : List (List Nat)) (N : Nat) : (((List.range N).map nmN).filter fun s => ts.contains s).length ≤ ts.length := by
  induction ts with
  | nil => simp
  | cons t ts ih =>
    have h1 := count_one t N
    have h2 : ∀ l : List (List Nat), (l.filter fun s => (t :: ts).contains s).length ≤ (l.filter fun s => decide (s = t)).length + (l.filter fun s => ts.contains s).length := by
      intro l
      induction l with
      | nil => simp
      | cons s l ihl =>
        by_cases q1 : s = t
        · subst q1
          by_cases q2 : s ∈ ts
          · simp [List.filter_cons, q2] at ihl ⊢; omega
          · simp [List.filter_cons, q2] at ihl ⊢; omega
        · by_cases q2 : s ∈ ts
          · simp [List.filter_cons, q1, q2] at ihl ⊢; omega
          · simp [List.filter_cons, q1, q2] at ihl ⊢; omega
    have := h2 ((List.range N).map nmN)
    simp only [List.length_cons]
    omega
theorem freeN_ge (ts : List (List Nat)) (N : Nat) : N ≤ (freeN ts N).length + ts.length := by
  have h1 := used_le ts N
  have h2 : ∀ l : List (List Nat), (l.filter fun s => !ts.contains s).length + (l.filter fun s => ts.contains s).length = l.length := by
    intro l
    induction l with
    | nil => rfl
    | cons s l ih => by_cases q : s ∈ ts <;> simp [q] at ih ⊢ <;> omega
  have h3 := h2 ((List.range N).map nmN)
  rw [List.length_map, List.length_range] at h3
  unfold freeN
  omega
/-- where the count is first reached -/
theorem freeN_hit (ts : List (List Nat)) (c : Nat) : ∃ N, N ≤ c + ts.length ∧ (freeN ts N).length = c ∧ ∀ i, i < N → (freeN ts i).length < c := by
  have step : ∀ M, (∀ i, i < M → (freeN ts i).length < c) ∨ ∃ N, N ≤ M ∧ (freeN ts N).length = c ∧ ∀ i, i < N → (freeN ts i).length < c := by
    intro M
    induction M with
    | zero => exact .inl fun i hi => absurd hi (Nat.not_lt_zero _)
    | succ M ih =>
      rcases ih with ih | ⟨N, h1, h2, h3⟩
      · by_cases q : (freeN ts M).length < c
        · exact .inl fun i hi => by
            by_cases e : i = M
            · subst e; exact q
            · exact ih i (by omega)
        · refine .inr ⟨M, by omega, ?_, ih⟩
          cases M with
          | zero => have := freeN_len_le ts 0; omega
          | succ M =>
            have a := ih M (by omega)
            rw [freeN_succ] at q ⊢
            rw [List.length_append] at q ⊢
            by_cases e : ts.contains (nmN M) = true <;> simp only [e, if_true] at q ⊢ <;> simp at q ⊢ <;> omega
      · exact .inr ⟨N, by omega, h2, h3⟩
  rcases step (c + ts.length + 1) with q | ⟨N, h1, h2, h3⟩
  · have a := q (c + ts.length) (by omega)
    have b := freeN_ge ts (c + ts.length)
    omega
  · by_cases e : N ≤ c + ts.length
    · exact ⟨N, e, h2, h3⟩
    · have a := h3 (c + ts.length) (by omega)
      have b := freeN_ge ts (c + ts.length)
      omega

theorem takeN_succ (ts : List (List Nat)) (c i : Nat) : (freeN ts (i + 1)).take c = if ((freeN ts i).take c).length < c then if ts.contains (nmN i) = true then (freeN ts i).take c else (freeN ts i).take c ++ [nmN i] else (freeN ts i).take c := by
  rw [freeN_succ]
  by_cases q1 : ((freeN ts i).take c).length < c
  · have full : (freeN ts i).length < c := by rw [List.length_take] at q1; omega
    rw [if_pos q1]
    by_cases q2 : ts.contains (nmN i) = true
    · rw [if_pos q2, if_pos q2, List.append_nil]
    · rw [if_neg q2, if_neg q2, List.take_of_length_le (by omega : (freeN ts i).length ≤ c), List.take_of_length_le (by rw [List.length_append, List.length_singleton]; omega)]
  · rw [if_neg q1, List.take_append_of_le_length (by rw [List.length_take] at q1; omega)]
theorem fresh_ok (g : Nat) (h : Hst) (hn : 0 < n) (c : Nat) (ts : List (List Nat)) (hc : c + ts.length ≤ 1000000) {a : Nat} (e : h[a]? = some (.lst (ts.map .str))) :
    callF g n .l_fresh [.int c, .ref a] h = .ok (.ref h.length) (h ++ [.lst (((freeN ts (c + ts.length)).take c).map .str)]) := by
  obtain ⟨n, rfl⟩ : ∃ m, n = m + 1 := ⟨n - 1, by omega⟩
  rw [cS]
  unfold runF
  have ea : ∀ l : Hst, (h ++ l)[a]? = some (.lst (ts.map .str)) := fun l => get_old e
  obtain ⟨en', h', e', x, h1, h2⟩ := forL_end (chk := none) (g := gNm 3) (b := (sIf (tAndE (tV (vB ltD (vCall lenD (aCons (vVar 2) (aNil))) (vVar 0))) (tV (vB ninD (vB addD (vC (.str [118])) (vCall strC (aCons (vVar 3) (aNil)))) (vVar 1)))) (sExpr (vM .list appendM (vVar 2) (aCons (vB addD (vC (.str [118])) (vCall strC (aCons (vVar 3) (aNil)))) (aNil)))) (sNil))) (rngD 0 (c + ts.length))
    (fun i en h' => ∃ x : Option D, en = [some (.int c), some (.ref a), some (.ref h.length), x] ∧ h' = h ++ [.lst (((freeN ts i).take c).map .str)]) [some (.int c), some (.ref a), some (.ref h.length), none] (h ++ [.lst []]) ⟨none, rfl, by simp [freeN]⟩ (fun _ _ _ _ _ => trivial)
    (fun i x en h' hx ⟨y, h1, h2⟩ => by
      obtain ⟨hi, rfl⟩ := range_get hx
      subst h1
      rw [h2]
      refine ⟨_, rfl, ?_⟩
      have hle := freeN_len_le ts i
      have hst : ∀ hh, strC [.int (i : Int)] hh = .ok (.str (decI i)) hh := fun hh => strC_nat hh (by omega)
      have hl62 : (decI (i : Int)).length ≤ 62 := decI_lenN (by omega)
      have hadd : ∀ hh, addD (.str [118]) (.str (decI i)) hh = .ok (.str (nmN i)) hh := fun hh => by rw [addD_str _ (by simp; omega)]; rfl
      have hFl : ((freeN ts i).take c).length ≤ i := by rw [List.length_take]; omega
      rw [takeN_succ]
      generalize (freeN ts i).take c = F at *
      have hlen : lenD [.ref h.length] (h ++ [.lst (F.map .str)]) = .ok (.int F.length) (h ++ [.lst (F.map .str)]) := by
        rw [lenD_lst (get_app _ _)]; simp
      simp only [Int.zero_add]
      by_cases q1 : F.length < c
      · have q1' : (F.length : Int) < c := by omega
        have hnin : ∀ l, ninD (.str (nmN i)) (.ref a) (h ++ l) = .ok (.bl (!ts.contains (nmN i))) (h ++ l) := fun l => nin_lst _ (ea l)
        generalize ts.contains (nmN i) = q2 at *
        cases q2 with
        | true =>
          simp [hlen, q1', hst, hadd, hnin]
          exact ⟨⟨_, rfl⟩, rfl⟩
        | false =>
          simp [hlen, q1, q1', hst, hadd, hnin]
          rw [appendM_at _ _ _ (by simp; omega)]
          simp
          exact ⟨⟨_, rfl⟩, rfl⟩
      · have q1' : ¬ (F.length : Int) < c := by omega
        simp [hlen, q1, q1']
        exact ⟨⟨_, rfl⟩, rfl⟩)
  rw [h1, h2, rngD_len] at e'
  have hto : ((c : Int) + ts.length).toNat = c + ts.length := by omega
  simp [body, b_l_fresh, ns, lenD_lst (ea _), -List.map_take, rng1K_int (j := (c : Int) + ts.length) _ (by omega) (by omega), hto]
  simp only [e', thenS_nx, sRet_ap, vVar_ap, List.getElem?_cons_succ, List.getElem?_cons_zero, bindS_ok, sSeq_ap]
  exact finish_new h (.lst _) [] (noRefs_str _)
theorem names_ok {g : Nat} (hg : 1000 < g) (h : Hst) (hn : 0 < n) (c : Nat) (ts : List (List Nat)) (hc : c + ts.length ≤ 1000) {t : D} (e : t = .tup (ts.map .str) ∨ ∃ a, t = .ref a ∧ h[a]? = some (.lst (ts.map .str))) :
    callF g n .fresh_names [.int c, t] h = .ok (.ref h.length) (h ++ [.lst (((freeN ts (c + ts.length)).take c).map .str)]) := by
  obtain ⟨n, rfl⟩ : ∃ m, n = m + 1 := ⟨n - 1, by omega⟩
  rw [cS]
  unfold runF
  have nin : ∀ (l : Hst) (s : List Nat), ninD (.str s) t (h ++ l) = .ok (.bl (!ts.contains s)) (h ++ l) := fun l s => by
    rcases e with rfl | ⟨a, rfl, e⟩
    · exact nin_tup _ _ _
    · exact nin_lst _ (get_old e)
  obtain ⟨N, hN, hit, bef⟩ := freeN_hit ts c
  have hlen : ∀ i, lenD [.ref h.length] (h ++ [.lst ((freeN ts i).map .str)]) = .ok (.int (freeN ts i).length) (h ++ [.lst ((freeN ts i).map .str)]) := fun i => by
    rw [lenD_lst (get_app _ _)]; simp
  obtain ⟨en', h', e', x, h1, h2⟩ := whileL_run (t := (tV (vB ltD (vCall lenD (aCons (vVar 2) (aNil))) (vVar 0)))) (b := (sSeq (sSet 4 (vB addD (vC (.str [118])) (vCall strC (aCons (vVar 3) (aNil))))) <|
    sSeq (sIf (tV (vB ninD (vVar 4) (vVar 1))) (sExpr (vM .list appendM (vVar 2) (aCons (vVar 4) (aNil)))) (sNil)) <|
    sAug 3 addS (vC (.int 1)))) N g
    (fun i en h' => ∃ x : Option D, en = [some (.int c), some t, some (.ref h.length), some (.int i), x] ∧ h' = h ++ [.lst ((freeN ts i).map .str)]) [some (.int c), some t, some (.ref h.length), some (.int 0), none] (h ++ [.lst []]) (by omega) ⟨none, rfl, by simp [freeN]⟩
    (fun i en h' hi ⟨y, h1, h2⟩ => by
      subst h1
      rw [h2]
      have hle := freeN_len_le ts i
      have q1 : ((freeN ts i).length : Int) < c := by have := bef i hi; omega
      have hst : ∀ hh, strC [.int (i : Int)] hh = .ok (.str (decI i)) hh := fun hh => strC_nat hh (by omega)
      have hl62 : (decI (i : Int)).length ≤ 62 := decI_lenN (by omega)
      have hadd : ∀ hh, addD (.str [118]) (.str (decI i)) hh = .ok (.str (nmN i)) hh := fun hh => by rw [addD_str _ (by simp; omega)]; rfl
      refine ⟨by simp [hlen, q1], ?_⟩
      rw [freeN_succ]
      have hnin := fun l => nin l (nmN i)
      generalize ts.contains (nmN i) = q2 at *
      cases q2 with
      | true =>
        simp [hst, hadd, hnin]
      | false =>
        simp [hst, hadd, hnin]
        rw [appendM_at _ _ _ (by simp; omega)]
        simp)
    (fun en h' ⟨y, h1, h2⟩ => by
      subst h1
      rw [h2]
      simp [hlen, hit])
  rw [h1, h2] at e'
  have hT : (freeN ts (c + ts.length)).take c = freeN ts N := by
    obtain ⟨l, el⟩ := freeN_mono ts N (c + ts.length - N)
    rw [Nat.add_sub_of_le hN] at el
    rw [el, ← hit, List.take_left']
    rfl
  rw [hT]
  simp [body, b_fresh_names, ns, e']
  exact finish_new h (.lst _) [] (noRefs_str _)

theorem cSg (g n : Nat) (f : FN) (hn : 0 < n) (ds : List D) (h : Hst) : callF g n f ds h = runF (ns f) (body (callF g (n - 1)) g f) ds h := by
  obtain ⟨n, rfl⟩ : ∃ m, n = m + 1 := ⟨n - 1, by omega⟩
  rfl
theorem law_true (xs : List Int) (hxs : xs.length ≤ 63) : ∃ g h, callF g 230 .f_law [.sl (xs.map .int)] [] = .ok (.bl true) h := by
  refine ⟨1001, ?_⟩
  rw [cSg _ _ _ (by decide)]
  have hc : ∀ (k : Int) (h : Hst), 0 ≤ k → callF 1001 229 .l_cell [.sl (xs.map .int), .int k] h = .ok (.int (atZ xs k)) h := fun k h hk => cell_ok (by decide) xs k hk
  obtain ⟨c, hcnt⟩ : ∃ c : Nat, atZ xs 0 % 81 + 300 * (if atZ xs 0 / 81 % 8 = 5 then 1 else 0) = (c : Int) := ⟨(atZ xs 0 % 81 + 300 * (if atZ xs 0 / 81 % 8 = 5 then 1 else 0)).toNat, by split <;> omega⟩
  have hc400 : c ≤ 380 := by split at hcnt <;> omega
  obtain ⟨m, hm⟩ : ∃ m : Nat, atZ xs 1 % 41 = (m : Int) := ⟨(atZ xs 1 % 41).toNat, by omega⟩
  obtain ⟨ds, hd1, hd2, hdig⟩ := digits_ok 1001 [] (n := 229) (by decide) (atZ xs 2) 1 40 (by decide)
  -- the taken names
  have hsl : ∀ x ∈ cutL ds none (some (m : Int)), 0 ≤ x ∧ x < 120 := fun x hx => hd2 x (cutL_mem hx)
  obtain ⟨tk, h', et, e1, e2⟩ := lcL_sat (chk := some (1, (cutL ds none (some (m : Int))).map .int)) (g := gNm 6) (t := tsN) (f := (vF 1 ((callF 1001 229) .l_string) (aCons (vVar 6) (aNil)))) (en := wipeE [some (.sl (xs.map .int)), some (.int (atZ xs 0)), some (.int c), some (.int m), some (.ref 0), none, none, none, none, none, none, none, none] [6]) ((cutL ds none (some (m : Int))).map .int)
    (fun i acc h' => h' = [.lst (ds.map .int), .lst ((cutL ds none (some (m : Int))).map .int)] ∧ acc.length = i ∧ ∀ d ∈ acc, ∃ s, d = .str s) [] _ ⟨rfl, rfl, by simp⟩ (fun i acc h hi ⟨e1, _⟩ => by rw [e1]; rfl)
    (fun i x acc h' hx ⟨e1, e2, e3⟩ => by
      rw [List.getElem?_map] at hx
      obtain ⟨z, hz, rfl⟩ := Option.map_eq_some_iff.mp hx
      have hz0 := hz
      have hz := hsl z (List.mem_of_getElem? hz)
      obtain ⟨s, hs⟩ := string_ok 1001 h' (n := 229) (by decide) z hz.1 hz.2
      have hi := (List.getElem?_eq_some_iff.mp hz0).1
      have hcl := cutL_len ds none (some (m : Int))
      refine ⟨_, rfl, .inr ⟨h', .str s, h', rfl, ?_, by omega, e1, by simp [e2], ?_⟩⟩
      · simp [wipeE, hs]
      · intro d hd
        rcases List.mem_append.mp hd with hd | hd
        · exact e3 d hd
        · exact ⟨s, by simpa using hd⟩)
  obtain ⟨e2, e3⟩ := e2
  obtain ⟨ts, rfl⟩ := str_list tk e3
  have hts : ts.length ≤ 40 := by
    have := cutL_len ds none (some (m : Int))
    rw [List.length_map, List.length_map] at e2
    omega
  obtain ⟨du, hdu⟩ : ∃ du : List (List Nat), (freeN ts (c + ts.length)).take c = du := ⟨_, rfl⟩
  have hdul : du.length ≤ 400 := by rw [← hdu, List.length_take]; omega
  have hfresh : ∀ (h : Hst) (a : Nat), h[a]? = some (.lst (ts.map .str)) → callF 1001 229 .l_fresh [.int c, .ref a] h = .ok (.ref h.length) (h ++ [.lst (du.map .str)]) := fun h a e => by
    rw [fresh_ok 1001 h (by decide) c ts (by omega) e, hdu]
  have hname : ∀ (h : Hst) (a : Nat), h[a]? = some (.lst (ts.map .str)) → callF 1001 229 .fresh_names [.int c, .ref a] h = .ok (.ref h.length) (h ++ [.lst (du.map .str)]) := fun h a e => by
    rw [names_ok (by decide) h (by decide) c ts (by omega) (.inr ⟨a, rfl, e⟩), hdu]
  have hnamt : ∀ (h : Hst), callF 1001 229 .fresh_names [.int c, .tup (ts.map .str)] h = .ok (.ref h.length) (h ++ [.lst (du.map .str)]) := fun h => by
    rw [names_ok (by decide) h (by decide) c ts (by omega) (.inl rfl), hdu]
  have hsame1 : ∀ (h : Hst) (a b : Nat), h[a]? = some (.lst (ts.map .str)) → h[b]? = some (.lst (ts.map .str)) → callF 1001 229 .l_same [.ref a, .ref b] h = .ok (.bl true) h := fun h a b ha hb => same_strs ts (by decide) (by omega) ha hb
  have hsame2 : ∀ (h : Hst) (a b : Nat), h[a]? = some (.lst (du.map .str)) → h[b]? = some (.lst (du.map .str)) → callF 1001 229 .l_same [.ref a, .ref b] h = .ok (.bl true) h := fun h a b ha hb => same_strs du (by decide) (by omega) ha hb
  have hdig2 : callF 1001 229 .l_digits [.int (atZ xs 2), .int 40, .int 1] [] = .ok (.ref 0) [.lst (ds.map .int)] := by simpa using hdig
  have hdig3 : ∀ (h : Hst) (k : Int), ∃ e : List Int, callF 1001 229 .l_digits [.int (atZ xs (3 + k)), .int 13, .int (2 + k)] h = .ok (.ref h.length) (h ++ [.lst (e.map .int)]) := fun h k =>
    let ⟨e, _, _, q⟩ := digits_ok 1001 h (n := 229) (by decide) (atZ xs (3 + k)) (2 + k) 13 (by decide)
    ⟨e, q⟩
  -- the eight words
  have hwords : ∀ (H0 : Hst) (en : En), en.length = 13 → en[0]? = some (some (.sl (xs.map .int))) → ∃ (ws : List (List Nat)) (l : Hst), ws.length = 8 ∧ lcL none (gNm 11) tsN (vF 1 ((callF 1001 229) .l_word) (aCons (vF 3 ((callF 1001 229) .l_digits) (aCons (vF 2 ((callF 1001 229) .l_cell) (aCons (vVar 0) (aCons (vB addD (vC (.int 3)) (vVar 11)) (aNil)))) (aCons (vC (.int 13)) (aCons (vB addD (vC (.int 2)) (vVar 11)) (aNil))))) (aNil))) en (rngD 0 8) [] H0 = .ok (ws.map .str) (H0 ++ l) := by
    intro H0 en hl h0
    obtain ⟨w, h', e, ⟨l, e1⟩, e2, e3⟩ := lcL_sat (chk := none) (g := gNm 11) (t := tsN) (f := (vF 1 ((callF 1001 229) .l_word) (aCons (vF 3 ((callF 1001 229) .l_digits) (aCons (vF 2 ((callF 1001 229) .l_cell) (aCons (vVar 0) (aCons (vB addD (vC (.int 3)) (vVar 11)) (aNil)))) (aCons (vC (.int 13)) (aCons (vB addD (vC (.int 2)) (vVar 11)) (aNil))))) (aNil)))) (en := en) (rngD 0 8)
      (fun i acc h' => (∃ l, h' = H0 ++ l) ∧ acc.length = i ∧ ∀ d ∈ acc, ∃ s, d = .str s) [] H0 ⟨⟨[], by simp⟩, rfl, by simp⟩ (fun _ _ _ _ _ => trivial)
      (fun i x acc h' hx ⟨⟨l, e1⟩, e2, e3⟩ => by
        obtain ⟨hi, rfl⟩ := range_get hx
        subst e1
        have g0 : (en.set 11 (some (.int (0 + (i : Int)))))[0]? = some (some (.sl (xs.map .int))) := by rw [List.getElem?_set_ne (by decide), h0]
        have g1 : (en.set 11 (some (.int (0 + (i : Int)))))[11]? = some (some (.int (i : Int))) := by rw [List.getElem?_set_self (by omega), Int.zero_add]
        obtain ⟨dg, q⟩ := hdig3 (H0 ++ l) i
        obtain ⟨s, hs⟩ := word_ok 1001 (n := 229) (by decide) dg (a := (H0 ++ l).length) (h := (H0 ++ l) ++ [.lst (dg.map .int)]) (get_app _ _)
        refine ⟨_, rfl, .inr ⟨_, .str s, (H0 ++ l) ++ [.lst (dg.map .int)], rfl, ?_, by omega, ⟨_, List.append_assoc _ _ _⟩, by simp [e2], ?_⟩⟩
        · simp only [vF_ap, aCons_ap, aNil_ap, vVar_ap, vC_ap, vB_ap, g0, g1, bind_ok, addD_int, List.length_cons, List.length_nil, if_true, hc _ _ (show 0 ≤ 3 + (i : Int) by omega), q, hs]
        · intro d hd
          rcases List.mem_append.mp hd with hd | hd
          · exact e3 d hd
          · exact ⟨s, by simpa using hd⟩)
    subst e1
    obtain ⟨ws, rfl⟩ := str_list w e3
    exact ⟨ws, l, by simpa [rngD_len] using e2, e⟩
  have hloop : ∀ (zs : List (List Nat)) (n : Nat) (H : Hst) (en : En), H[n]? = some (.lst (zs.map .str)) → en.length = 13 → ∃ en', forL (some (n, zs.map .str)) (gNm 12) (sIf (tNotE (tTru (vF 2 ((callF 1001 229) .l_same) (aCons (vF 1 ((callF 1001 229) .is_name) (aCons (vVar 12) (aNil))) (aCons (vF 1 ((callF 1001 229) .l_named) (aCons (vVar 12) (aNil))) (aNil)))))) (sRet (vC (.bl false))) (sNil)) (zs.map .str) en H = .nx en' H := by
    intro zs n H en hz hl
    obtain ⟨en', h', e, e1, e2⟩ := forL_end (chk := some (n, zs.map .str)) (g := gNm 12) (b := (sIf (tNotE (tTru (vF 2 ((callF 1001 229) .l_same) (aCons (vF 1 ((callF 1001 229) .is_name) (aCons (vVar 12) (aNil))) (aCons (vF 1 ((callF 1001 229) .l_named) (aCons (vVar 12) (aNil))) (aNil)))))) (sRet (vC (.bl false))) (sNil))) (zs.map .str)
      (fun i en h' => en.length = 13 ∧ h' = H) en H ⟨hl, rfl⟩ (fun i en h hi q => by rw [q.2]; exact hz) (fun i x en h' hx q => by
        rw [List.getElem?_map] at hx
        obtain ⟨s, hs, rfl⟩ := Option.map_eq_some_iff.mp hx
        obtain ⟨q1, rfl⟩ := q
        obtain ⟨b, h1, h2⟩ := is_name_ok (n := 229) 1001 h' s (by decide)
        have g1 : (en.set 12 (some (.str s)))[12]? = some (some (.str s)) := by rw [List.getElem?_set_self (by omega)]
        refine ⟨_, rfl, ?_⟩
        simp [g1, h1, h2, same_bl]
        exact ⟨by simp [q1], rfl⟩)
    exact ⟨en', by rw [e, e2]⟩
  subst e1
  simp [wipeE, cutL_map] at et
  have hd16 : du.length < 16777216 := by omega
  obtain ⟨ws, l, hwl, hw⟩ := hwords [.lst (ds.map .int), .lst ((cutL ds none (some (m : Int))).map .int), .lst (ts.map .str), .lst (ts.map .str), .lst (du.map .str), .lst (du.map .str ++ [.str [119]]), .lst (du.map .str), .lst (du.map .str)]
    [some (.sl (xs.map .int)), some (.int (atZ xs 0)), some (.int c), some (.int m), some (.ref 0), some (.ref 2), none, some (.ref 3), some (.ref 4), some (.ref 5), none, none, none] rfl rfl
  simp at hw
  unfold runF
  simp [body, b_f_law, ns, hc, hcnt, hm, hdig2, et, mulD_l, wipeE, cutL_map, hfresh, hname, hsame1, hsame2, hnamt, tyD_lst, appendM_ref, hd16, hw]
  have hpre : ∀ (H : Hst) (a b : Nat), H[a]? = some (.lst (ws.map .str)) → H[b]? = some (.lst ((cutL ts none (some 3)).map .str)) → H[4]? = some (.lst (du.map .str)) → ∃ (zs : List (List Nat)) (n : Nat) (H' : Hst), (((addD (.ref a) (.ref b) H).bind fun x h1 => (slD (.ref 4) (some (-2)) none h1).bind fun y h2 => addD x y h2).bind fun d h1 => iterD d h1) = .ok (zs.map .str, some (n, zs.map .str)) H' ∧ H'[n]? = some (.lst (zs.map .str)) := by
    intro H a b ha hb h4
    have l1 := cutL_len ts none (some 3)
    have l2 := cutL_len du (some (-2)) none
    rw [addD_ref ha hb (by simp; omega)]
    simp only [bind_ok]
    rw [slD_ref _ _ (get_old h4)]
    simp only [bind_ok]
    rw [addD_ref (xs := (ws ++ cutL ts none (some 3)).map .str) (ys := (cutL du (some (-2)) none).map .str) (get_old (by rw [get_app, List.map_append]; rfl)) (by rw [get_app, cutL_map]; rfl) (by simp; omega)]
    simp only [bind_ok]
    rw [iterD_ref (get_app _ _)]
    have em : ((ws ++ cutL ts none (some 3)) ++ cutL du (some (-2)) none).map D.str = (ws ++ cutL ts none (some 3)).map D.str ++ (cutL du (some (-2)) none).map D.str := List.map_append
    refine ⟨(ws ++ cutL ts none (some 3)) ++ cutL du (some (-2)) none, _, _, by rw [em], ?_⟩
    rw [em, get_app]
    rfl
  obtain ⟨zs, n, H', hz, hzn⟩ := hpre (.lst (ds.map .int) :: .lst ((cutL ds none (some (m : Int))).map .int) :: .lst (ts.map .str) :: .lst (ts.map .str) :: .lst (du.map .str) :: .lst (du.map .str ++ [.str [119]]) :: .lst (du.map .str) :: .lst (du.map .str) :: (l ++ [.lst (ws.map .str), .lst ((cutL ts none (some 3)).map .str)])) (l.length + 1 + 1 + 1 + 1 + 1 + 1 + 1 + 1) (l.length + 1 + 1 + 1 + 1 + 1 + 1 + 1 + 1 + 1) (by simp) (by simp) rfl
  obtain ⟨en', hlp⟩ := hloop zs n H' [some (.sl (xs.map .int)), some (.int (atZ xs 0)), some (.int c), some (.int m), some (.ref 0), some (.ref 2), none, some (.ref 3), some (.ref 4), some (.ref 5),
                some (.ref (l.length + 1 + 1 + 1 + 1 + 1 + 1 + 1 + 1)), none, none] hzn rfl
  rw [hz]
  simp only [hlp, thenS_nx, sRet_ap, vC_ap, bindS_ok]
  exact finish_bl _ _ _
end
end Mi

open PySem PySem.W PySem.Calls PyProof.Rows
set_option maxHeartbeats 0 in
theorem PySem.Challenge.cw_drawnonce_k00_fresh_names_holds : PySem.Challenge.rw_drawnonce_k00_fresh_names.Holds := by
  w_on; o_law
  refine HandSHeadRun.head_any (r := OpenLaw.row PySem.Challenge.rw_drawnonce_k00_fresh_names) (q := view (OpenLaw.row PySem.Challenge.rw_drawnonce_k00_fresh_names).prog [15]) (H := Mi.hkL) (ob := Mi.obL) (M := 600) (loose := Mi.looseL) (d := HandSHeadRun.topDef (OpenLaw.row PySem.Challenge.rw_drawnonce_k00_fresh_names).prog 15) (kwd := []) Mi.obL_eq
    (by kernel_rfl) (fun s => by kernel_rfl) Mi.runL (by kernel_rfl) (by kernel_rfl) (by kernel_rfl) (by rfl) (by first | assumption | decide +kernel) (by decide +kernel) ⟨rfl, rfl, rfl, rfl, rfl, by decide +kernel⟩ ?hw ?hc
  case hw => w_witness2
  case hc =>
    refine L2.walk_ofE (l := PySem.Challenge.rw_drawnonce_k00_fresh_names) (n := 63) (k := 230) (x := "script") rfl (by decide) (by kernel_rfl) ⟨rfl, by decide, by decide⟩ ?F (CX := L2.CX0) (fun _ _ _ _ z => z)
    intro w mg fa h Y G hmg0
    obtain ⟨K, KX, c⟩ := Y
    have T := Mi.top_of KX G c
    have hmg : mg ("law" : PySem.Str) = some (.ref fa) := by
      have e : (HandSHeadRun.topDef (OpenLaw.row PySem.Challenge.rw_drawnonce_k00_fresh_names).prog 15).name = ("law" : PySem.Str) := by kernel_rfl
      rw [← e]
      exact hmg0
    have hfa : fa = He.fAd K Mi.d_f_law.at_ := PySem.Value.ref.inj (Option.some.inj (hmg.symm.trans T.f_f_law))
    obtain ⟨fd, hF⟩ := T.t_f_law
    obtain ⟨sp, h1, h2⟩ := Mi.law_ok (P := (PySem.Challenge.rw_drawnonce_k00_fresh_names).prog) (w := w) (mg := mg) (n := 230) (d := Mi.d_f_law) (F := fun g => Mi.Run.callF g 230 .f_law) hF (fun base g => Mi.all_ok g T 230 .f_law) rfl Mi.law_true
    refine ⟨K, fd, sp, KX, fun s v => L2.FunD.bindsA (ps := ["script"]) hF (fun _ _ _ _ _ _ us hl => match us, hl with | [_], _ => rfl) s [v] rfl, h1, fun base _ _ => ?_⟩
    rw [hfa]
    exact h2 base



