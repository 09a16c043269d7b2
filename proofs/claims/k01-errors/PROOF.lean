import PyProof.Rows.All
import Wide.All
import OpenK.AllK
import Wide.FinOn
import HandS.ForMost
import HandS.ForExc
import HandS.ExcInit
import KE.KExcInit
import KE.DataEq
import KE.DataCmp
import HandS.Wide
import PyProof.ReprRoads
import PyProof.CallFns
import HandS.ExcValue
import HandS.CallSlots
import KE.KExcIs
import KE.KExcStr
import KE.KExcMake
import KE.KExcSuper
import HandS.IsInst
import HandS.ExcField
import KE.KSuper
import HandS.DictTup
import HandS.Small
import HandS.FStr
import PySem.Challenge.RW_dawnway_k01_errors
set_option Elab.async false
set_option linter.all false
set_option maxRecDepth 100000
set_option maxHeartbeats 4000000
/-! Data, and how an abstract heap bears it -/
namespace Q
open PySem PySem.Spec PyProof.Rows L2

inductive D where
  | non | bl (b : Bool) | int (i : Int) | str (x : Str)
  | tup (ds : List D) | lst (ds : List D) | dct (kvs : List (D × D)) | obj (C : Str) (fs : List (Str × D)) | fn (f : Str)
  /-- an exception as a value: its class, its one text (where it is kept), its attributes -/
  | exc (C : Str) (m : Option Str) (fs : List (Str × D))
/-- what a slot holds: nothing known, shared data, an object of its own that may be changed -/
inductive DSlot where
  | no | sh (d : D) | own (d : D)
inductive DVal where
  | sh (d : D) | own (i : Nat) | new (d : D)
abbrev DEnv := List DSlot
structure DExc where
  cls : Str
  fs : List (Str × D)
inductive DRes (α : Type) where
  | ok (a : α) (env : DEnv) | exc (x : DExc) (env : DEnv) | stuck
def DRes.bind {α β : Type} (r : DRes α) (f : α → DEnv → DRes β) : DRes β := match r with
  | .ok a e => f a e
  | .exc x e => .exc x e
  | .stuck => .stuck
abbrev ME := DEnv → DRes DVal
abbrev MT := DEnv → DRes Bool
abbrev MA := DEnv → DRes (List DVal)
def keyD : Key → D
  | .inl i => .int i
  | .inr x => .str x

/-- an exception object, not raised: its class, its dict, its args -/
def exq (a C : Addr) (dx : Option Addr) (t : Addr) : HO := .ext fun h => h.get? a = some (PySem.W.excObj C t dx .none)
def KTup (K : PySem.W.Frag) (a : Addr) (xs : List V) : Prop := ∃ (o : Obj) (its : Array Value) (n : Nat), K.lookup a = some o ∧ o.cls = .type "tuple" ∧ o.data = .seq its n ∧ its.size ≤ sizeLine ∧ Vals xs its.toList
def KLst (K : PySem.W.Frag) (a : Addr) (xs : List V) : Prop := ∃ (its : Array Value) (n : Nat), K.lookup a = some { cls := .type "list", data := .seq its n } ∧ its.size ≤ sizeLine ∧ Vals xs its.toList
/-- a list as it is read, its object told to the letter -/
def LstAt (K : PySem.W.Frag) (H : Hp) (a : Addr) (xs : List V) : Prop := Rd H a (.lst xs) ∨ KLst K a xs
theorem LstAt.sq {K : PySem.W.Frag} {H : Hp} {a : Addr} {xs : List V} (h : LstAt K H a xs) : SqL K H a xs := by
  rcases h with h | ⟨its, n, h1, h2, h3⟩
  · exact .inl h
  · exact .inr ⟨_, its, n, h1, rfl, rfl, rfl, h2, h3⟩
theorem LstAt.at {X : Cx} {pins : List (Addr × Obj)} {σ : L2.St} {H : Hp} {s : Shared} {a : Addr} {xs : List V} (h : LstAt X.K H a xs) (I : Inv X pins σ H s) : xs.length ≤ sizeLine ∧ ∃ (its : List Value) (n : Nat), Vals xs its ∧ xs.length = its.length ∧ s.heap.get? a = some { cls := .type "list", data := .seq its.toArray n } := by
  rcases h with h | ⟨its, n, h1, h2, h3⟩
  · obtain ⟨z, its, n, r, e⟩ := h.ok I.hok
    exact ⟨z, its, n, r, r.length, e⟩
  · have e := I.kIn a _ h1
    have hl := h3.length
    exact ⟨by rw [hl]; simpa using h2, its.toList, n, h3, hl, by simpa using e⟩
section
variable (K : PySem.W.Frag) (mg : Str → Option Value)
mutual
/-- v reads in H as d, and nothing that it is made of lies in Av -/
inductive RD (Av : Addr → Prop) (H : Hp) : V → D → Prop
  | non : RD Av H .non .non
  | bl (b : Bool) : RD Av H (.bl b) (.bl b)
  | int (i : Int) : RD Av H (.int i) (.int i)
  | str (x : Str) : RD Av H (.str x) (.str x)
  | tup {a : Addr} {vs : List V} {ds : List D} : Rd H a (.tup vs) → ¬ Av a → RDs Av H vs ds → RD Av H (.ref a) (.tup ds)
  | tupK {a : Addr} {vs : List V} {ds : List D} : KTup K a vs → RDs Av H vs ds → RD Av H (.ref a) (.tup ds)
  | lst {a : Addr} {vs : List V} {ds : List D} : Rd H a (.lst vs) → ¬ Av a → RDs Av H vs ds → RD Av H (.ref a) (.lst ds)
  | lstK {a : Addr} {vs : List V} {ds : List D} : KLst K a vs → RDs Av H vs ds → RD Av H (.ref a) (.lst ds)
  | dct {a : Addr} {kvs : List (Key × V)} {ds : List (D × D)} : H a = some (.dK kvs) → ¬ Av a → ds.map (·.1) = kvs.map (keyD ·.1) → RDs Av H (kvs.map (·.2)) (ds.map (·.2)) → RD Av H (.ref a) (.dct ds)
  | obj {a C dx : Addr} {fs : List (Str × V)} {n : Str} {ds : List (Str × D)} : mg n = some (.ref C) → H a = some (.ins C dx fs) → ¬ Av a → ds.map (·.1) = fs.map (·.1) → RDs Av H (fs.map (·.2)) (ds.map (·.2)) → RD Av H (.ref a) (.obj n ds)
  | fn {f : Str} {a : Addr} : mg f = some (.ref a) → RD Av H (.ref a) (.fn f)
  | exc0 {a C t : Addr} {n m : Str} : mg n = some (.ref C) → H a = some (exq a C none t) → ¬ Av a → H t = some (.tup [.str m]) → ¬ Av t → RD Av H (.ref a) (.exc n (some m) [])
  | exc1 {a C t dx : Addr} {n : Str} {fs : List (Str × V)} {ds : List (Str × D)} : mg n = some (.ref C) → H a = some (exq a C (some dx) t) → ¬ Av a → H dx = some (exd dx fs) → ¬ Av dx → ds.map (·.1) = fs.map (·.1) → RDs Av H (fs.map (·.2)) (ds.map (·.2)) → RD Av H (.ref a) (.exc n none ds)
inductive RDs (Av : Addr → Prop) (H : Hp) : List V → List D → Prop
  | nil : RDs Av H [] []
  | cons {v : V} {d : D} {vs : List V} {ds : List D} : RD Av H v d → RDs Av H vs ds → RDs Av H (v :: vs) (d :: ds)
end
/-- what stands at p, to be changed by its owner -/
def Own (Av : Addr → Prop) (H : Hp) (p : Addr) : D → Prop
  | .lst ds => ∃ vs, H p = some (.lst vs) ∧ RDs K mg Av H vs ds
  | .dct ds => ∃ kvs, H p = some (.dK kvs) ∧ ds.map (·.1) = kvs.map (keyD ·.1) ∧ RDs K mg Av H (kvs.map (·.2)) (ds.map (·.2))
  | .obj n ds => ∃ C dx fs, mg n = some (.ref C) ∧ H p = some (.ins C dx fs) ∧ ds.map (·.1) = fs.map (·.1) ∧ RDs K mg Av H (fs.map (·.2)) (ds.map (·.2))
  | _ => False
/-- read at the moment: the object itself may be anybody's -/
inductive RT (Av : Addr → Prop) (H : Hp) : V → D → Prop
  | non : RT Av H .non .non
  | bl (b : Bool) : RT Av H (.bl b) (.bl b)
  | int (i : Int) : RT Av H (.int i) (.int i)
  | str (x : Str) : RT Av H (.str x) (.str x)
  | tup {a : Addr} {vs : List V} {ds : List D} : SqT K H a vs → RDs K mg Av H vs ds → RT Av H (.ref a) (.tup ds)
  | lst {a : Addr} {vs : List V} {ds : List D} : LstAt K H a vs → RDs K mg Av H vs ds → RT Av H (.ref a) (.lst ds)
  | dct {a : Addr} {kvs : List (Key × V)} {ds : List (D × D)} : H a = some (.dK kvs) → ds.map (·.1) = kvs.map (keyD ·.1) → RDs K mg Av H (kvs.map (·.2)) (ds.map (·.2)) → RT Av H (.ref a) (.dct ds)
  | obj {a C dx : Addr} {fs : List (Str × V)} {n : Str} {ds : List (Str × D)} : mg n = some (.ref C) → H a = some (.ins C dx fs) → ds.map (·.1) = fs.map (·.1) → RDs K mg Av H (fs.map (·.2)) (ds.map (·.2)) → RT Av H (.ref a) (.obj n ds)
  | fn {f : Str} {a : Addr} : mg f = some (.ref a) → RT Av H (.ref a) (.fn f)
  | exc0 {a C t : Addr} {n m : Str} : mg n = some (.ref C) → H a = some (exq a C none t) → H t = some (.tup [.str m]) → RT Av H (.ref a) (.exc n (some m) [])
  | exc1 {a C t dx : Addr} {n : Str} {fs : List (Str × V)} {ds : List (Str × D)} : mg n = some (.ref C) → H a = some (exq a C (some dx) t) → H dx = some (exd dx fs) → ds.map (·.1) = fs.map (·.1) → RDs K mg Av H (fs.map (·.2)) (ds.map (·.2)) → RT Av H (.ref a) (.exc n none ds)
end

section
variable {K : PySem.W.Frag} {mg : Str → Option Value} {Av Av' : Addr → Prop} {H H' : Hp}
def NoTbl (o : HO) : Prop := ∀ ps, o ≠ .tbl ps
def Kep (A : Addr → Prop) (H H' : Hp) : Prop := ∀ a o, H a = some o → ¬ A a → NoTbl o → H' a = some o
theorem Kep.refl (A : Addr → Prop) (H : Hp) : Kep A H H := fun _ _ h _ _ => h
theorem Kep.trans {A : Addr → Prop} {H H1 H2 : Hp} (a : Kep A H H1) (b : Kep A H1 H2) : Kep A H H2 := fun p o h n t => b p o (a p o h n t) n t
theorem Kep.mono {A A' : Addr → Prop} (k : Kep A H H') (h : ∀ a, A a → A' a) : Kep A' H H' := fun p o e n t => k p o e (fun z => n (h p z)) t
theorem Kep.new {A : Addr → Prop} {p : Addr} {o : HO} (hp : H p = none) : Kep A H (L2.upd H p o) := fun a u e _ _ => by
  rw [upd_ne (ne_of_none e hp)]; exact e
theorem Kep.put {A : Addr → Prop} {p : Addr} {o : HO} (hp : A p) : Kep A H (L2.upd H p o) := fun a u e n _ => by
  have ne : a ≠ p := fun z => n (by rw [z]; exact hp)
  rw [upd_ne ne]; exact e
theorem keep_rd {A : Addr → Prop} {a : Addr} {u : HO} (k : Kep A H H') (n : ¬ A a) (hu : NoTbl u) (h : Rd H a u) : Rd H' a u := by
  rcases h with h | ⟨o, h⟩
  · exact .inl (k _ _ h n hu)
  · exact .inr ⟨o, k _ _ h n fun _ z => by cases z⟩
theorem nt_tup {vs : List V} : NoTbl (.tup vs) := fun _ z => by cases z
theorem nt_lst {vs : List V} : NoTbl (.lst vs) := fun _ z => by cases z
mutual
theorem RD.keep {v : V} {d : D} (h : RD K mg Av H v d) (hs : ∀ a, Av' a → Av a) {A : Addr → Prop} (ha : ∀ a, A a → Av a) (k : Kep A H H') : RD K mg Av' H' v d := match h with
  | .non => .non
  | .bl b => .bl b
  | .int i => .int i
  | .str x => .str x
  | .tup h1 h2 h3 => .tup (keep_rd k (fun z => h2 (ha _ z)) nt_tup h1) (fun z => h2 (hs _ z)) (RDs.keep h3 hs ha k)
  | .tupK h1 h3 => .tupK h1 (RDs.keep h3 hs ha k)
  | .lst h1 h2 h3 => .lst (keep_rd k (fun z => h2 (ha _ z)) nt_lst h1) (fun z => h2 (hs _ z)) (RDs.keep h3 hs ha k)
  | .lstK h1 h3 => .lstK h1 (RDs.keep h3 hs ha k)
  | .dct h1 h2 h3 h4 => .dct (k _ _ h1 (fun z => h2 (ha _ z)) fun _ z => by cases z) (fun z => h2 (hs _ z)) h3 (RDs.keep h4 hs ha k)
  | .obj h0 h1 h2 h3 h4 => .obj h0 (k _ _ h1 (fun z => h2 (ha _ z)) fun _ z => by cases z) (fun z => h2 (hs _ z)) h3 (RDs.keep h4 hs ha k)
  | .fn h => .fn h
  | .exc0 h0 h1 h2 h3 h4 => .exc0 h0 (k _ _ h1 (fun z => h2 (ha _ z)) fun _ z => by cases z) (fun z => h2 (hs _ z)) (k _ _ h3 (fun z => h4 (ha _ z)) fun _ z => by cases z) (fun z => h4 (hs _ z))
  | .exc1 h0 h1 h2 h3 h4 h5 h6 => .exc1 h0 (k _ _ h1 (fun z => h2 (ha _ z)) fun _ z => by cases z) (fun z => h2 (hs _ z)) (k _ _ h3 (fun z => h4 (ha _ z)) fun _ z => by cases z) (fun z => h4 (hs _ z)) h5 (RDs.keep h6 hs ha k)
theorem RDs.keep {vs : List V} {ds : List D} (h : RDs K mg Av H vs ds) (hs : ∀ a, Av' a → Av a) {A : Addr → Prop} (ha : ∀ a, A a → Av a) (k : Kep A H H') : RDs K mg Av' H' vs ds := match h with
  | .nil => .nil
  | .cons a b => .cons (RD.keep a hs ha k) (RDs.keep b hs ha k)
end
theorem RD.mono {v : V} {d : D} (h : RD K mg Av H v d) (hs : ∀ a, Av' a → Av a) : RD K mg Av' H v d := h.keep hs (A := fun _ => False) (fun _ z => z.elim) (Kep.refl _ _)
theorem RDs.mono {v : List V} {d : List D} (h : RDs K mg Av H v d) (hs : ∀ a, Av' a → Av a) : RDs K mg Av' H v d := h.keep hs (A := fun _ => False) (fun _ z => z.elim) (Kep.refl _ _)
theorem RD.top {v : V} {d : D} (h : RD K mg Av H v d) : RT K mg Av H v d := match h with
  | .non => .non
  | .bl b => .bl b
  | .int i => .int i
  | .str x => .str x
  | .tup h1 _ h3 => .tup (.inl h1) h3
  | .tupK h1 h3 => .tup (.inr h1) h3
  | .lst h1 _ h3 => .lst (.inl h1) h3
  | .lstK h1 h3 => .lst (.inr h1) h3
  | .dct h1 _ h3 h4 => .dct h1 h3 h4
  | .obj h0 h1 _ h3 h4 => .obj h0 h1 h3 h4
  | .fn h => .fn h
  | .exc0 h0 h1 h2 h3 h4 => .exc0 h0 h1 h3
  | .exc1 h0 h1 h2 h3 h4 h5 h6 => .exc1 h0 h1 h3 h5 h6
theorem Own.top {p : Addr} {d : D} (h : Own K mg Av H p d) : RT K mg Av H (.ref p) d := by
  cases d with
  | lst ds => obtain ⟨vs, h1, h2⟩ := h; exact .lst (.inl (.inl h1)) h2
  | dct ds => obtain ⟨vs, h1, h2, h3⟩ := h; exact .dct h1 h2 h3
  | obj n ds => obtain ⟨C, dx, fs, h0, h1, h2, h3⟩ := h; exact .obj h0 h1 h2 h3
  | _ => exact h.elim
/-- an owner lets go -/
theorem Own.free {p : Addr} {d : D} (h : Own K mg Av H p d) (hs : ∀ a, Av' a → Av a) (n : ¬ Av' p) : RD K mg Av' H (.ref p) d := by
  cases d with
  | lst ds => obtain ⟨vs, h1, h2⟩ := h; exact .lst (Rd.of h1) n (h2.mono hs)
  | dct ds => obtain ⟨vs, h1, h2, h3⟩ := h; exact .dct h1 n h2 (h3.mono hs)
  | obj m ds => obtain ⟨C, dx, fs, h0, h1, h2, h3⟩ := h; exact .obj h0 h1 n h2 (h3.mono hs)
  | _ => exact h.elim
theorem Own.keep {p : Addr} {d : D} (h : Own K mg Av H p d) (hs : ∀ a, Av' a → Av a) {A : Addr → Prop} (ha : ∀ a, A a → Av a) (k : Kep A H H') (n : ¬ A p) : Own K mg Av' H' p d := by
  cases d with
  | lst ds => obtain ⟨vs, h1, h2⟩ := h; exact ⟨vs, k _ _ h1 n (fun _ z => by cases z), h2.keep hs ha k⟩
  | dct ds => obtain ⟨vs, h1, h2, h3⟩ := h; exact ⟨vs, k _ _ h1 n (fun _ z => by cases z), h2, h3.keep hs ha k⟩
  | obj m ds => obtain ⟨C, dx, fs, h0, h1, h2, h3⟩ := h; exact ⟨C, dx, fs, h0, k _ _ h1 n (fun _ z => by cases z), h2, h3.keep hs ha k⟩
  | _ => exact h.elim
theorem Own.trk {p : Addr} {d : D} (h : Own K mg Av H p d) : ∃ o, H p = some o ∧ NoTbl o := by
  cases d with
  | lst ds => obtain ⟨vs, h1, h2⟩ := h; exact ⟨_, h1, fun _ z => by cases z⟩
  | dct ds => obtain ⟨vs, h1, h2, h3⟩ := h; exact ⟨_, h1, fun _ z => by cases z⟩
  | obj m ds => obtain ⟨C, dx, fs, h0, h1, h2, h3⟩ := h; exact ⟨_, h1, fun _ z => by cases z⟩
  | _ => exact h.elim
theorem RDs.length {vs : List V} {ds : List D} (h : RDs K mg Av H vs ds) : vs.length = ds.length := match h with
  | .nil => rfl
  | .cons _ b => by simp [RDs.length b]
theorem RDs.get {i : Nat} {d : D} : ∀ {vs : List V} {ds : List D}, RDs K mg Av H vs ds → ds[i]? = some d → ∃ v, vs[i]? = some v ∧ RD K mg Av H v d := by
  induction i with
  | zero =>
    intro vs ds h e
    cases h with
    | nil => cases e
    | cons a b => cases e; exact ⟨_, rfl, a⟩
  | succ i ih =>
    intro vs ds h e
    cases h with
    | nil => cases e
    | cons a b => exact ih b e
theorem RDs.append : ∀ {vs : List V} {ds : List D} {us : List V} {es : List D}, RDs K mg Av H vs ds → RDs K mg Av H us es → RDs K mg Av H (vs ++ us) (ds ++ es)
  | _, _, _, _, .nil, b => b
  | _, _, _, _, .cons a t, b => .cons a (RDs.append t b)

mutual
/-- what is not tracked is no part of what reads -/
theorem RD.fresh {v : V} {d : D} (h : RD K mg Av H v d) {p : Addr} (hp : H p = none) : RD K mg (fun a => Av a ∨ a = p) H v d := match h with
  | .non => .non
  | .bl b => .bl b
  | .int i => .int i
  | .str x => .str x
  | .tup h1 h2 h3 => .tup h1 (fun z => z.elim h2 fun e => by rw [e] at h1; rcases h1 with q | ⟨_, q⟩ <;> (rw [hp] at q; cases q)) (RDs.fresh h3 hp)
  | .tupK h1 h3 => .tupK h1 (RDs.fresh h3 hp)
  | .lst h1 h2 h3 => .lst h1 (fun z => z.elim h2 fun e => by rw [e] at h1; rcases h1 with q | ⟨_, q⟩ <;> (rw [hp] at q; cases q)) (RDs.fresh h3 hp)
  | .lstK h1 h3 => .lstK h1 (RDs.fresh h3 hp)
  | .dct h1 h2 h3 h4 => .dct h1 (fun z => z.elim h2 fun e => by rw [e, hp] at h1; cases h1) h3 (RDs.fresh h4 hp)
  | .obj h0 h1 h2 h3 h4 => .obj h0 h1 (fun z => z.elim h2 fun e => by rw [e, hp] at h1; cases h1) h3 (RDs.fresh h4 hp)
  | .fn h => .fn h
  | .exc0 h0 h1 h2 h3 h4 => .exc0 h0 h1 (fun z => z.elim h2 fun e => by rw [e, hp] at h1; cases h1) h3 (fun z => z.elim h4 fun e => by rw [e, hp] at h3; cases h3)
  | .exc1 h0 h1 h2 h3 h4 h5 h6 => .exc1 h0 h1 (fun z => z.elim h2 fun e => by rw [e, hp] at h1; cases h1) h3 (fun z => z.elim h4 fun e => by rw [e, hp] at h3; cases h3) h5 (RDs.fresh h6 hp)
theorem RDs.fresh {vs : List V} {ds : List D} (h : RDs K mg Av H vs ds) {p : Addr} (hp : H p = none) : RDs K mg (fun a => Av a ∨ a = p) H vs ds := match h with
  | .nil => .nil
  | .cons a b => .cons (RD.fresh a hp) (RDs.fresh b hp)
end
theorem Own.fresh {q : Addr} {d : D} (h : Own K mg Av H q d) {p : Addr} (hp : H p = none) : Own K mg (fun a => Av a ∨ a = p) H q d := by
  cases d with
  | lst ds => obtain ⟨vs, h1, h2⟩ := h; exact ⟨vs, h1, h2.fresh hp⟩
  | dct ds => obtain ⟨vs, h1, h2, h3⟩ := h; exact ⟨vs, h1, h2, h3.fresh hp⟩
  | obj m ds => obtain ⟨C, dx, fs, h0, h1, h2, h3⟩ := h; exact ⟨C, dx, fs, h0, h1, h2, h3.fresh hp⟩
  | _ => exact h.elim

/-! ### environments -/
def IsOwn (env : DEnv) (σ : L2.St) (i : Nat) (p : Addr) : Prop := (∃ d : D, env[i]? = some (DSlot.own d)) ∧ σ[i]? = some (some (V.ref p))
def OwnS (env : DEnv) (σ : L2.St) (p : Addr) : Prop := ∃ i, IsOwn env σ i p
def AvE (B : Addr → Prop) (env : DEnv) (σ : L2.St) (p : Addr) : Prop := B p ∨ OwnS env σ p
end
/-- what is fixed in a body: the written part, the module's names, the heap at the entry, the slots that are handed in to be changed with their addresses -/
structure DCtx where
  K : PySem.W.Frag
  mg : Str → Option Value
  H0 : Hp
  io : List (Nat × Addr)
structure REnv (c : DCtx) (B : Addr → Prop) (env : DEnv) (σ : L2.St) (H : Hp) : Prop where
  len : σ.length = env.length
  sh : ∀ (i : Nat) (d : D), env[i]? = some (DSlot.sh d) → ∃ v, σ[i]? = some (some v) ∧ RD c.K c.mg (AvE B env σ) H v d
  own : ∀ (i : Nat) (d : D), env[i]? = some (DSlot.own d) → ∃ p, σ[i]? = some (some (V.ref p)) ∧ ¬ B p ∧ Own c.K c.mg (AvE B env σ) H p d
  inj : ∀ i j p, IsOwn env σ i p → IsOwn env σ j p → i = j
  trk : ∀ p, B p → ∃ o, H p = some o
  fr : ∀ a o, c.H0 a = some o → (∀ q ∈ c.io, q.2 ≠ a) → NoTbl o → H a = some o
  fo : ∀ i p, IsOwn env σ i p → (∃ q ∈ c.io, q.2 = p) ∨ c.H0 p = none
  io : ∀ q ∈ c.io, IsOwn env σ q.1 q.2
  dom : ∀ a o, c.H0 a = some o → ∃ o', H a = some o'
def addB (B : Addr → Prop) : DVal → V → Addr → Prop
  | .new _, .ref p => fun a => B a ∨ a = p
  | _, _ => B
/-- what a value is, where env, σ, H stand and B are the temporary ones ahead of it -/
def VR (c : DCtx) (B : Addr → Prop) (env : DEnv) (σ : L2.St) (H : Hp) : DVal → V → Prop
  | .sh d, v => RD c.K c.mg (AvE B env σ) H v d
  | .own i, v => (∃ d : D, env[i]? = some (DSlot.own d)) ∧ σ[i]? = some (some v)
  | .new d, v => ∃ p, v = .ref p ∧ ¬ AvE B env σ p ∧ c.H0 p = none ∧ Own c.K c.mg (AvE (addB B (.new d) v) env σ) H p d
structure Post (env : DEnv) (σ : L2.St) (H : Hp) (env' : DEnv) (H' : Hp) : Prop where
  own : ∀ i : Nat, (∃ d : D, env'[i]? = some (DSlot.own d)) ↔ (∃ d : D, env[i]? = some (DSlot.own d))
  keep : Kep (OwnS env σ) H H'
  dom : ∀ a o, H a = some o → ∃ o', H' a = some o'
end Q

set_option linter.all false
set_option maxRecDepth 100000
set_option maxHeartbeats 4000000
namespace Q
open PySem PySem.Spec PyProof.Rows L2
section
variable {c : DCtx} {B B' : Addr → Prop} {env env' env1 env2 : DEnv} {σ : L2.St} {H H' H1 H2 : Hp}
theorem AvE.mono (hs : ∀ a, B' a → B a) : ∀ a, AvE B' env σ a → AvE B env σ a := fun a h => h.elim (fun z => .inl (hs a z)) .inr
theorem Post.refl : Post env σ H env H := ⟨fun _ => Iff.rfl, Kep.refl _ _, fun a o h => ⟨o, h⟩⟩
theorem Post.ownS (P : Post env σ H env' H') (p : Addr) : OwnS env' σ p ↔ OwnS env σ p :=
  ⟨fun ⟨i, h, e⟩ => ⟨i, (P.own i).mp h, e⟩, fun ⟨i, h, e⟩ => ⟨i, (P.own i).mpr h, e⟩⟩
theorem Post.av (P : Post env σ H env' H') (p : Addr) : AvE B env' σ p ↔ AvE B env σ p := or_congr Iff.rfl (P.ownS p)
theorem Post.trans (P : Post env σ H env1 H1) (P2 : Post env1 σ H1 env2 H2) : Post env σ H env2 H2 :=
  ⟨fun i => (P2.own i).trans (P.own i), P.keep.trans (P2.keep.mono fun a h => (P.ownS a).mp h), fun a o h => let ⟨o', h'⟩ := P.dom a o h; P2.dom a o' h'⟩
theorem Post.kept (k : Kep (fun _ => False) H H') (dm : ∀ a o, H a = some o → ∃ o', H' a = some o') : Post env σ H env H' := ⟨fun _ => Iff.rfl, k.mono fun _ z => z.elim, dm⟩
/-- a new object beside -/
theorem Post.new {p : Addr} {o : HO} (hp : H p = none) : Post env σ H env (L2.upd H p o) := ⟨fun _ => Iff.rfl, Kep.new hp, fun a u h => ⟨u, by rw [upd_ne (ne_of_none h hp)]; exact h⟩⟩
theorem REnv.trkA (R : REnv c B env σ H) {p : Addr} (h : AvE B env σ p) : ∃ o, H p = some o := by
  rcases h with h | ⟨i, ⟨d, e⟩, h⟩
  · exact R.trk p h
  · obtain ⟨q, e1, _, e2⟩ := R.own i d e
    rw [h] at e1; cases e1
    obtain ⟨o, e3, _⟩ := e2.trk
    exact ⟨o, e3⟩
theorem REnv.free (R : REnv c B env σ H) {p : Addr} (h : H p = none) : ¬ AvE B env σ p := fun z => by
  obtain ⟨o, e⟩ := R.trkA z
  rw [h] at e; cases e
theorem REnv.no0 (R : REnv c B env σ H) {p : Addr} (h : H p = none) : c.H0 p = none := by
  cases q : c.H0 p with
  | none => rfl
  | some o =>
    obtain ⟨o', e⟩ := R.dom p o q
    rw [h] at e; cases e
theorem REnv.weak (R : REnv c B env σ H) (hs : ∀ a, B' a → B a) : REnv c B' env σ H :=
  ⟨R.len, fun i d e => let ⟨v, a, b⟩ := R.sh i d e; ⟨v, a, b.mono (AvE.mono hs)⟩, fun i d e => let ⟨p, a, n, b⟩ := R.own i d e; ⟨p, a, fun z => n (hs _ z), b.keep (AvE.mono hs) (A := fun _ => False) (fun _ z => z.elim) (Kep.refl _ _) (fun z => z)⟩,
    R.inj, fun p h => R.trk p (hs p h), R.fr, R.fo, R.io, R.dom⟩
/-- nothing that is tracked has changed -/
theorem REnv.keep (R : REnv c B env σ H) (k : Kep (fun _ => False) H H') (dm : ∀ a o, H a = some o → ∃ o', H' a = some o') : REnv c B env σ H' :=
  ⟨R.len, fun i d e => let ⟨v, a, b⟩ := R.sh i d e; ⟨v, a, b.keep (fun _ z => z) (fun _ z => z.elim) k⟩, fun i d e => let ⟨p, a, n, b⟩ := R.own i d e; ⟨p, a, n, b.keep (fun _ z => z) (fun _ z => z.elim) k (fun z => z)⟩,
    R.inj, fun p h => let ⟨o, e⟩ := R.trk p h; dm p o e, fun a o h n t => k a o (R.fr a o h n t) (fun z => z) t, R.fo, R.io, fun a o h => let ⟨o', e⟩ := R.dom a o h; dm a o' e⟩
/-- a new object, a temporary one -/
theorem REnv.moreK (R : REnv c B env σ H) {p : Addr} (hp : H p = none) (k : Kep (fun _ => False) H H') (dm : ∀ a o, H a = some o → ∃ o', H' a = some o') (hp' : ∃ o, H' p = some o) : REnv c (fun a => B a ∨ a = p) env σ H' := by
  have av : ∀ a, AvE (fun a => B a ∨ a = p) env σ a → AvE B env σ a ∨ a = p := fun a z => by
    rcases z with (z | z) | z
    · exact .inl (.inl z)
    · exact .inr z
    · exact .inl (.inr z)
  have R2 := R.keep k dm
  refine ⟨R.len, fun i d e => ?_, fun i d e => ?_, R.inj, fun q h => ?_, R2.fr, R.fo, R.io, R2.dom⟩
  · obtain ⟨v, a, b⟩ := R.sh i d e
    exact ⟨v, a, ((b.fresh hp).keep (Av' := AvE (fun a => B a ∨ a = p) env σ) av (A := fun _ => False) (fun _ z => z.elim) k)⟩
  · obtain ⟨q, a, n, b⟩ := R.own i d e
    have hq : ∃ o, H q = some o := let ⟨u, e, _⟩ := b.trk; ⟨u, e⟩
    refine ⟨q, a, fun z => z.elim n fun e => ?_, (b.fresh hp).keep av (A := fun _ => False) (fun _ z => z.elim) k (fun z => z)⟩
    obtain ⟨u, hu⟩ := hq
    rw [e, hp] at hu; cases hu
  · rcases h with h | h
    · obtain ⟨u, hu⟩ := R.trk q h
      exact dm q u hu
    · rw [h]; exact hp'
theorem dom_new {p : Addr} {o : HO} (hp : H p = none) : ∀ a u, H a = some u → ∃ o', L2.upd H p o a = some o' := fun a u h => ⟨u, by rw [upd_ne (ne_of_none h hp)]; exact h⟩
theorem REnv.more (R : REnv c B env σ H) {p : Addr} {o : HO} (hp : H p = none) : REnv c (fun a => B a ∨ a = p) env σ (L2.upd H p o) :=
  R.moreK hp (Kep.new hp) (dom_new hp) ⟨o, upd_same⟩
theorem addB_sub {val : DVal} {v : V} : ∀ a, B a → addB B val v a := fun a h => by
  cases val with
  | new d => cases v <;> first | exact h | exact .inl h
  | _ => exact h
theorem addB_mono (hs : ∀ a, B a → B' a) {val : DVal} {v : V} : ∀ a, addB B val v a → addB B' val v a := fun a h => by
  cases val with
  | new d =>
    cases v with
    | ref p => exact h.elim (fun z => .inl (hs a z)) .inr
    | _ => exact hs a h
  | _ => exact hs a h
theorem VR.step {val : DVal} {v : V} (h : VR c B env σ H val v) (P : Post env σ H env' H') : VR c B env' σ H' val v := by
  cases val with
  | sh d => exact RD.keep h (fun a z => (P.av a).mp z) (fun a z => .inr z) P.keep
  | own i => exact ⟨(P.own i).mpr h.1, h.2⟩
  | new d =>
    obtain ⟨p, rfl, n, h0, o⟩ := h
    exact ⟨p, rfl, fun z => n ((P.av p).mp z), h0, Own.keep o (fun a z => (P.av a).mp z) (fun a z => .inr z) P.keep fun z => n (.inr z)⟩
/-- what a value holds now -/
def DVal.view (env : DEnv) : DVal → Option D
  | .sh d => some d
  | .new d => some d
  | .own i => match env[i]? with
    | some (.own d) => some d
    | _ => none
theorem RT.mono {K : PySem.W.Frag} {mg : Str → Option Value} {Av Av' : Addr → Prop} {v : V} {d : D} (h : RT K mg Av H v d) (hs : ∀ a, Av' a → Av a) : RT K mg Av' H v d := match h with
  | .non => .non
  | .bl b => .bl b
  | .int i => .int i
  | .str x => .str x
  | .tup h1 h3 => .tup h1 (h3.mono hs)
  | .lst h1 h3 => .lst h1 (h3.mono hs)
  | .dct h1 h3 h4 => .dct h1 h3 (h4.mono hs)
  | .obj h0 h1 h3 h4 => .obj h0 h1 h3 (h4.mono hs)
  | .fn h => .fn h
  | .exc0 h0 h1 h3 => .exc0 h0 h1 h3
  | .exc1 h0 h1 h3 h5 h6 => .exc1 h0 h1 h3 h5 (h6.mono hs)
theorem VR.top {val : DVal} {v : V} {d : D} (h : VR c B env σ H val v) (R : REnv c B' env σ H) (hs : ∀ a, B a → B' a) (e : val.view env = some d) : RT c.K c.mg (AvE B env σ) H v d := by
  cases val with
  | sh d' => cases e; exact RD.top h
  | new d' =>
    cases e
    obtain ⟨p, rfl, n, _, o⟩ := h
    exact (Own.top o).mono (AvE.mono addB_sub)
  | own i =>
    obtain ⟨⟨d', e1⟩, e2⟩ := h
    have e' : (match env[i]? with | some (DSlot.own d) => some d | _ => none) = some d := e
    rw [e1] at e'; cases e'
    obtain ⟨p, e3, _, o⟩ := R.own i _ e1
    rw [e2] at e3; cases e3
    exact (Own.top o).mono (AvE.mono hs)

/-! ### exceptions -/
def RX (c : DCtx) (Av : Addr → Prop) (H : Hp) (x : DExc) (cls : Value) (dx : Option Addr) : Prop :=
  ∃ C, c.mg x.cls = some (.ref C) ∧ cls = .ref C ∧ ((x.fs = [] ∧ dx = none) ∨ ∃ d vs, dx = some d ∧ H d = some (.xd vs) ∧ x.fs.map (·.1) = vs.map (·.1) ∧ RDs c.K c.mg Av H (vs.map (·.2)) (x.fs.map (·.2)))
theorem RX.mono {Av Av' : Addr → Prop} {x : DExc} {cls : Value} {dx : Option Addr} (h : RX c Av H x cls dx) (hs : ∀ a, Av' a → Av a) : RX c Av' H x cls dx := by
  obtain ⟨C, h1, h2, h3⟩ := h
  refine ⟨C, h1, h2, h3.imp id fun ⟨d, vs, a, b, e, r⟩ => ⟨d, vs, a, b, e, r.mono hs⟩⟩

/-! ### the judgement of expressions -/
/-- what is told as new was not there -/
def NewAt (H : Hp) : DVal → V → Prop
  | .new _, .ref p => H p = none
  | _, _ => True
theorem NewAt.back {x : DVal} {v : V} (h : NewAt H1 x v) (dm : ∀ a o, H a = some o → ∃ o', H1 a = some o') : NewAt H x v := by
  cases x with
  | new d =>
    cases v with
    | ref p =>
      cases q : H p with
      | none => exact q
      | some o =>
        obtain ⟨o', e⟩ := dm p o q
        have h' : H1 p = none := h
        rw [h'] at e; cases e
    | _ => trivial
  | _ => trivial
def Goal (c : DCtx) (W : WX) (B : Addr → Prop) (env : DEnv) (σ : L2.St) (H : Hp) (Q : VK) : DRes DVal → Prop
  | .ok val env' => ∀ v H', REnv c (addB B val v) env' σ H' → VR c B env' σ H' val v → Post env σ H env' H' → NewAt H val v → Q v H'
  | .exc x env' => ∀ cls dx H', REnv c B env' σ H' → RX c (AvE B env' σ) H' x cls dx → Post env σ H env' H' → W cls dx σ H'
  | .stuck => False
def GoalT (c : DCtx) (W : WX) (B : Addr → Prop) (env : DEnv) (σ : L2.St) (H : Hp) (Q : Bool → Hp → Prop) : DRes Bool → Prop
  | .ok b env' => ∀ H', REnv c B env' σ H' → Post env σ H env' H' → Q b H'
  | .exc x env' => ∀ cls dx H', REnv c B env' σ H' → RX c (AvE B env' σ) H' x cls dx → Post env σ H env' H' → W cls dx σ H'
  | .stuck => False
def Ref (c : DCtx) (W : WX) (te : TE) (m : ME) : Prop := ∀ B env σ H Q, REnv c B env σ H → Goal c W B env σ H Q (m env) → te σ H Q
def RefT (c : DCtx) (W : WX) (tt : TT) (m : MT) : Prop := ∀ B env σ H Q, REnv c B env σ H → GoalT c W B env σ H Q (m env) → tt σ H Q
variable {W : WX} {B1 : Addr → Prop}
theorem Goal.next {Q Q1 : VK} {r : DRes DVal} {k : DVal → DEnv → DRes DVal} (P : Post env σ H env1 H1) (hB : ∀ a, B a → B1 a) (h : Goal c W B env σ H Q (r.bind k))
    (hk : ∀ val env2 v H2, REnv c (addB B1 val v) env2 σ H2 → VR c B1 env2 σ H2 val v → Post env1 σ H1 env2 H2 → Goal c W B env σ H Q (k val env2) → Q1 v H2) : Goal c W B1 env1 σ H1 Q1 r := by
  cases r with
  | stuck => exact h
  | exc x e => exact fun cls dx H' R X P2 => h cls dx H' (R.weak hB) (X.mono (AvE.mono hB)) (P.trans P2)
  | ok val e => exact fun v H' R V P2 _ => hk val e v H' R V P2 h
theorem Goal.nextT {Q : VK} {Q1 : Bool → Hp → Prop} {r : DRes Bool} {k : Bool → DEnv → DRes DVal} (P : Post env σ H env1 H1) (hB : ∀ a, B a → B1 a) (h : Goal c W B env σ H Q (r.bind k))
    (hk : ∀ b env2 H2, REnv c B1 env2 σ H2 → Post env1 σ H1 env2 H2 → Goal c W B env σ H Q (k b env2) → Q1 b H2) : GoalT c W B1 env1 σ H1 Q1 r := by
  cases r with
  | stuck => exact h
  | exc x e => exact fun cls dx H' R X P2 => h cls dx H' (R.weak hB) (X.mono (AvE.mono hB)) (P.trans P2)
  | ok val e => exact fun H' R P2 => hk val e H' R P2 h
theorem GoalT.next {Q : Bool → Hp → Prop} {Q1 : VK} {r : DRes DVal} {k : DVal → DEnv → DRes Bool} (P : Post env σ H env1 H1) (hB : ∀ a, B a → B1 a) (h : GoalT c W B env σ H Q (r.bind k))
    (hk : ∀ val env2 v H2, REnv c (addB B1 val v) env2 σ H2 → VR c B1 env2 σ H2 val v → Post env1 σ H1 env2 H2 → GoalT c W B env σ H Q (k val env2) → Q1 v H2) : Goal c W B1 env1 σ H1 Q1 r := by
  cases r with
  | stuck => exact h
  | exc x e => exact fun cls dx H' R X P2 => h cls dx H' (R.weak hB) (X.mono (AvE.mono hB)) (P.trans P2)
  | ok val e => exact fun v H' R V P2 _ => hk val e v H' R V P2 h
theorem GoalT.nextT {Q Q1 : Bool → Hp → Prop} {r : DRes Bool} {k : Bool → DEnv → DRes Bool} (P : Post env σ H env1 H1) (hB : ∀ a, B a → B1 a) (h : GoalT c W B env σ H Q (r.bind k))
    (hk : ∀ b env2 H2, REnv c B1 env2 σ H2 → Post env1 σ H1 env2 H2 → GoalT c W B env σ H Q (k b env2) → Q1 b H2) : GoalT c W B1 env1 σ H1 Q1 r := by
  cases r with
  | stuck => exact h
  | exc x e => exact fun cls dx H' R X P2 => h cls dx H' (R.weak hB) (X.mono (AvE.mono hB)) (P.trans P2)
  | ok val e => exact fun H' R P2 => hk val e H' R P2 h
/-- the same result, told from further back -/
theorem Goal.back {Q : VK} {r : DRes DVal} (P : Post env σ H env1 H1) (hB : ∀ a, B a → B1 a) (h : Goal c W B env σ H Q r) : Goal c W B1 env1 σ H1 Q r := by
  cases r with
  | stuck => exact h
  | exc x e => exact fun cls dx H' R X P2 => h cls dx H' (R.weak hB) (X.mono (AvE.mono hB)) (P.trans P2)
  | ok val e =>
    refine fun v H' R V P2 nw => h v H' (R.weak (addB_mono hB)) ?_ (P.trans P2) (nw.back P.dom)
    cases val with
    | sh d => exact RD.mono V (AvE.mono hB)
    | own i => exact V
    | new d =>
      obtain ⟨p, rfl, n, h0, o⟩ := V
      exact ⟨p, rfl, fun z => n (AvE.mono hB _ z), h0, Own.keep o (AvE.mono (addB_mono hB)) (A := fun _ => False) (fun _ z => z.elim) (Kep.refl _ _) (fun z => z)⟩
end
end Q

set_option linter.all false
set_option maxRecDepth 100000
set_option maxHeartbeats 4000000
namespace Q
open PySem PySem.Spec PyProof.Rows L2
/-- what an operation on data gives: known data (scalars, parts of what was handed in), a new object -/
inductive OR where
  | sh (d : D) | mk (d : D) | new (d : D) | stuck
def OR.res : OR → DEnv → DRes DVal
  | .sh d, e => .ok (.sh d) e
  | .mk d, e => .ok (.sh d) e
  | .new d, e => .ok (.new d) e
  | .stuck, _ => .stuck
def OGoal (c : DCtx) (Av : Addr → Prop) (H : Hp) (Q : VK) : OR → Prop
  | .sh d => ∀ v, RD c.K c.mg Av H v d → Q v H
  | .mk d => ∀ v H', Kep (fun _ => False) H H' → (∀ a o, H a = some o → ∃ o', H' a = some o') → RD c.K c.mg Av H' v d → Q v H'
  | .new d => ∀ p H', H p = none → Kep (fun _ => False) H H' → (∀ a o, H a = some o → ∃ o', H' a = some o') → Own c.K c.mg (fun a => Av a ∨ a = p) H' p d → Q (.ref p) H'
  | .stuck => False
inductive RTs (c : DCtx) (Av : Addr → Prop) (H : Hp) : List V → List D → Prop
  | nil : RTs c Av H [] []
  | cons {v : V} {d : D} {vs : List V} {ds : List D} : RT c.K c.mg Av H v d → RTs c Av H vs ds → RTs c Av H (v :: vs) (d :: ds)
/-- two operands, one, many, by values -/
def Op2 (c : DCtx) (r : R2) (f : D → D → OR) : Prop := ∀ Av H x y a b Q, RT c.K c.mg Av H x a → RT c.K c.mg Av H y b → OGoal c Av H Q (f a b) → r x y H Q
def Op1 (c : DCtx) (r : V → Hp → VK → Prop) (f : D → OR) : Prop := ∀ Av H x a Q, RT c.K c.mg Av H x a → OGoal c Av H Q (f a) → r x H Q
def OpN (c : DCtx) (r : List V → Hp → VK → Prop) (f : List D → OR) : Prop := ∀ Av H vs ds Q, RTs c Av H vs ds → OGoal c Av H Q (f ds) → r vs H Q

def mOp (f : D → D → OR) (ma mb : ME) : ME := fun env => (ma env).bind fun x e1 => (mb e1).bind fun y e2 => match x.view e2, y.view e2 with
  | some a, some b => (f a b).res e2
  | _, _ => .stuck
def mUn (f : D → OR) (ma : ME) : ME := fun env => (ma env).bind fun x e1 => match x.view e1 with
  | some a => (f a).res e1
  | _ => .stuck
def mVar (i : Nat) : ME := fun env => match env[i]? with
  | some (.sh d) => .ok (.sh d) env
  | some (.own _) => .ok (.own i) env
  | _ => .stuck
def mC (d : D) : ME := fun env => .ok (.sh d) env
def mTest (m : ME) : MT := fun env => (m env).bind fun x e => match x with
  | .sh (.bl b) => .ok b e
  | _ => .stuck
def mNot (m : MT) : MT := fun env => (m env).bind fun b e => .ok (!b) e
def mAnd (m n : MT) : MT := fun env => (m env).bind fun b e => match b with
  | true => n e
  | false => .ok false e
def mOr (m n : MT) : MT := fun env => (m env).bind fun b e => match b with
  | true => .ok true e
  | false => n e
def mB (m : MT) : ME := fun env => (m env).bind fun b e => .ok (.sh (.bl b)) e
def mIfE (t : MT) (a b : ME) : ME := fun env => (t env).bind fun k e => match k with
  | true => a e
  | false => b e
def mChain (f g : D → D → OR) (ma mb mc : ME) : ME := fun env => (ma env).bind fun x e1 => (mb e1).bind fun y e2 => match x.view e2, y.view e2 with
  | some a, some b => match f a b with
    | .sh (.bl true) => (mc e2).bind fun z e3 => match y.view e3, z.view e3 with
      | some b', some d => (g b' d).res e3
      | _, _ => .stuck
    | .sh (.bl false) => .ok (.sh (.bl false)) e2
    | _ => .stuck
  | _, _ => .stuck
/-! arguments -/
def addBs (B : Addr → Prop) : List DVal → List V → Addr → Prop
  | x :: xs, v :: vs => addBs (addB B x v) xs vs
  | _, _ => B
inductive VRs (c : DCtx) (env : DEnv) (σ : L2.St) (H : Hp) : (Addr → Prop) → List DVal → List V → Prop
  | nil {B : Addr → Prop} : VRs c env σ H B [] []
  | cons {B : Addr → Prop} {x : DVal} {v : V} {xs : List DVal} {vs : List V} : VR c B env σ H x v → VRs c env σ H (addB B x v) xs vs → VRs c env σ H B (x :: xs) (v :: vs)
def GoalA (c : DCtx) (W : WX) (B : Addr → Prop) (env : DEnv) (σ : L2.St) (H : Hp) (Q : List V → Hp → Prop) : DRes (List DVal) → Prop
  | .ok xs env' => ∀ vs H', REnv c (addBs B xs vs) env' σ H' → VRs c env' σ H' B xs vs → Post env σ H env' H' → Q vs H'
  | .exc x env' => ∀ cls dx H', REnv c B env' σ H' → RX c (AvE B env' σ) H' x cls dx → Post env σ H env' H' → W cls dx σ H'
  | .stuck => False
def RefA (c : DCtx) (W : WX) (ta : TA) (m : MA) : Prop := ∀ B env σ H Q, REnv c B env σ H → GoalA c W B env σ H Q (m env) → ta σ H Q
def mNil : MA := fun env => .ok [] env
def mCons (ma : ME) (mr : MA) : MA := fun env => (ma env).bind fun x e1 => (mr e1).bind fun xs e2 => .ok (x :: xs) e2
def views (env : DEnv) : List DVal → Option (List D)
  | [] => some []
  | x :: xs => match x.view env, views env xs with
    | some d, some ds => some (d :: ds)
    | _, _ => none
def mCall (f : List D → OR) (ma : MA) : ME := fun env => (ma env).bind fun xs e1 => match views e1 xs with
  | some ds => (f ds).res e1
  | _ => .stuck

section
variable {c : DCtx} {B B' B1 : Addr → Prop} {env env' env1 env2 : DEnv} {σ : L2.St} {H H' H1 H2 : Hp} {W : WX}
/-- the end of an operation: from where the operands stand -/
theorem Goal.ends {Q : VK} {r : OR} {B2 : Addr → Prop} (P : Post env σ H env2 H2) (R : REnv c B2 env2 σ H2) (hB : ∀ a, B a → B2 a) (h : Goal c W B env σ H Q (r.res env2)) : OGoal c (AvE B env2 σ) H2 Q r := by
  cases r with
  | stuck => exact h
  | sh d => exact fun v hv => h v H2 (R.weak hB) hv P trivial
  | mk d => exact fun v H' k dm hv => h v H' ((R.weak hB).keep k dm) hv (P.trans (Post.kept k dm)) trivial
  | new d =>
    intro p H' hp k dm ho
    have hf : ¬ AvE B env2 σ p := fun z => R.free hp (AvE.mono hB _ z)
    refine h (.ref p) _ (REnv.weak (R.moreK hp k dm (let ⟨o, e, _⟩ := ho.trk; ⟨o, e⟩)) (fun a z => z.imp (hB a) id)) ⟨p, rfl, hf, R.no0 hp, ?_⟩ (P.trans (Post.kept k dm)) (NewAt.back (H1 := H2) (x := .new d) (v := .ref p) hp P.dom)
    refine Own.keep ho (fun a z => ?_) (A := fun _ => False) (fun _ z => z.elim) (Kep.refl _ _) (fun z => z)
    rcases z with (z | z) | z
    · exact .inl (.inl z)
    · exact .inr z
    · exact .inl (.inr z)
theorem ref_var (i : Nat) : Ref c W (tVar i) (mVar i) := by
  intro B env σ H Q R h
  unfold mVar at h
  split at h
  · rename_i d e
    obtain ⟨v, h1, h2⟩ := R.sh i d e
    exact ⟨v, h1, h v H R h2 Post.refl trivial⟩
  · rename_i d e
    obtain ⟨p, h1, h2, h3⟩ := R.own i d e
    exact ⟨.ref p, h1, h (.ref p) H R ⟨⟨d, e⟩, h1⟩ Post.refl trivial⟩
  · exact h.elim
theorem ref_c {v : V} {d : D} (hd : ∀ K mg Av H, RD K mg Av H v d) : Ref c W (tC v) (mC d) := fun B env σ H Q R h => h v H R (hd _ _ _ _) Post.refl trivial
theorem ref_int {i : Int} : Ref c W (tC (.int i)) (mC (.int i)) := ref_c fun _ _ _ _ => .int i
theorem ref_bl {b : Bool} : Ref c W (tC (.bl b)) (mC (.bl b)) := ref_c fun _ _ _ _ => .bl b
theorem ref_str {x : Str} : Ref c W (tC (.str x)) (mC (.str x)) := ref_c fun _ _ _ _ => .str x
theorem ref_non : Ref c W (tC .non) (mC .non) := ref_c fun _ _ _ _ => .non
theorem ref_op {r : R2} {f : D → D → OR} {ta tb : TE} {ma mb : ME} (ho : Op2 c r f) (ha : Ref c W ta ma) (hb : Ref c W tb mb) : Ref c W (tOp r ta tb) (mOp f ma mb) := by
  intro B env σ H Q R h
  refine ha B env σ H _ R (Goal.next Post.refl (fun _ z => z) h fun x e1 v H1 R1 V1 P1 h1 => ?_)
  refine hb _ e1 σ H1 _ R1 (Goal.next P1 addB_sub h1 fun y e2 u H2 R2 V2 P2 h2 => ?_)
  have V1' := V1.step P2
  cases ex : x.view e2 with
  | none => rw [ex] at h2; exact h2.elim
  | some a =>
    cases ey : y.view e2 with
    | none => rw [ex, ey] at h2; exact h2.elim
    | some b =>
      rw [ex, ey] at h2
      exact ho (AvE B e2 σ) H2 v u a b Q (V1'.top R2 (fun a z => addB_sub a (addB_sub a z)) ex) ((V2.top R2 addB_sub ey).mono (AvE.mono addB_sub)) (Goal.ends (P1.trans P2) R2 (fun a z => addB_sub a (addB_sub a z)) h2)
theorem ref_un {r : V → Hp → VK → Prop} {f : D → OR} {ta : TE} {ma : ME} (ho : Op1 c r f) (ha : Ref c W ta ma) : Ref c W (tUn r ta) (mUn f ma) := by
  intro B env σ H Q R h
  refine ha B env σ H _ R (Goal.next Post.refl (fun _ z => z) h fun x e1 v H1 R1 V1 P1 h1 => ?_)
  cases ex : x.view e1 with
  | none => rw [ex] at h1; exact h1.elim
  | some a =>
    rw [ex] at h1
    exact ho (AvE B e1 σ) H1 v a Q (V1.top R1 addB_sub ex) (Goal.ends P1 R1 addB_sub h1)
theorem VR.bl {b : Bool} {v : V} (h : VR c B env σ H (.sh (.bl b)) v) : v = .bl b := by
  cases (show RD c.K c.mg (AvE B env σ) H v (.bl b) from h)
  rfl
theorem ref_test {te : TE} {m : ME} (h : Ref c W te m) : RefT c W (tTest te) (mTest m) := by
  intro B env σ H Q R g
  refine h B env σ H _ R (GoalT.next Post.refl (fun _ z => z) g fun x e1 v H1 R1 V1 P1 h1 => ?_)
  cases x with
  | sh d =>
    cases d with
    | bl b => exact ⟨b, V1.bl, h1 H1 R1 P1⟩
    | _ => exact h1.elim
  | _ => exact h1.elim
theorem ref_B {te : TE} {m : ME} (h : Ref c W te m) : RefT c W (tB te) (mTest m) := by
  intro B env σ H Q R g
  refine h B env σ H _ R (GoalT.next Post.refl (fun _ z => z) g fun x e1 v H1 R1 V1 P1 h1 => ?_)
  cases x with
  | sh d =>
    cases d with
    | bl b => exact ⟨b, V1.bl, h1 H1 R1 P1⟩
    | _ => exact h1.elim
  | _ => exact h1.elim
theorem ref_not {t : TT} {m : MT} (h : RefT c W t m) : RefT c W (tNot t) (mNot m) := by
  intro B env σ H Q R g
  exact h B env σ H _ R (GoalT.nextT Post.refl (fun _ z => z) g fun b e1 H1 R1 P1 h1 => h1 H1 R1 P1)
/-- the same answer, told from further back -/
theorem GoalT.back {Q : Bool → Hp → Prop} {r : DRes Bool} (P : Post env σ H env1 H1) (hB : ∀ a, B a → B1 a) (h : GoalT c W B env σ H Q r) : GoalT c W B1 env1 σ H1 Q r := by
  cases r with
  | stuck => exact h
  | exc x e => exact fun cls dx H' R X P2 => h cls dx H' (R.weak hB) (X.mono (AvE.mono hB)) (P.trans P2)
  | ok val e => exact fun H' R P2 => h H' (R.weak hB) (P.trans P2)
theorem ref_and {t u : TT} {m n : MT} (h : RefT c W t m) (h' : RefT c W u n) : RefT c W (tAnd t u) (mAnd m n) := by
  intro B env σ H Q R g
  refine h B env σ H _ R (GoalT.nextT Post.refl (fun _ z => z) g fun b e1 H1 R1 P1 h1 => ?_)
  cases b with
  | true => exact iteT (h' B e1 σ H1 Q R1 (GoalT.back P1 (fun _ z => z) h1))
  | false => exact iteF (h1 H1 R1 P1)
theorem ref_or {t u : TT} {m n : MT} (h : RefT c W t m) (h' : RefT c W u n) : RefT c W (tOr t u) (mOr m n) := by
  intro B env σ H Q R g
  refine h B env σ H _ R (GoalT.nextT Post.refl (fun _ z => z) g fun b e1 H1 R1 P1 h1 => ?_)
  cases b with
  | true => exact iteT (h1 H1 R1 P1)
  | false => exact iteF (h' B e1 σ H1 Q R1 (GoalT.back P1 (fun _ z => z) h1))
theorem ref_ifE {t : TT} {ta tb : TE} {m : MT} {ma mb : ME} (h : RefT c W t m) (ha : Ref c W ta ma) (hb : Ref c W tb mb) : Ref c W (tIf t ta tb) (mIfE m ma mb) := by
  intro B env σ H Q R g
  refine h B env σ H _ R (Goal.nextT Post.refl (fun _ z => z) g fun b e1 H1 R1 P1 h1 => ?_)
  cases b with
  | true => exact iteT (ha B e1 σ H1 Q R1 (Goal.back P1 (fun _ z => z) h1))
  | false => exact iteF (hb B e1 σ H1 Q R1 (Goal.back P1 (fun _ z => z) h1))
/-- a and b as a value: all but the last are truth values -/
def mAndV (ma mb : ME) : ME := fun env => (ma env).bind fun x e => match x with
  | .sh (.bl true) => mb e
  | .sh (.bl false) => .ok (.sh (.bl false)) e
  | _ => .stuck
def mOrV (ma mb : ME) : ME := fun env => (ma env).bind fun x e => match x with
  | .sh (.bl false) => mb e
  | .sh (.bl true) => .ok (.sh (.bl true)) e
  | _ => .stuck
def mNotV (ma : ME) : ME := fun env => (ma env).bind fun x e => match x with
  | .sh (.bl b) => .ok (.sh (.bl (!b))) e
  | _ => .stuck
theorem ref_andV {ta tb : TE} {ma mb : ME} (ha : Ref c W ta ma) (hb : Ref c W tb mb) : Ref c W (tAndV ta tb) (mAndV ma mb) := by
  intro B env σ H Q R g
  refine ha B env σ H _ R (Goal.next Post.refl (fun _ z => z) g fun x e1 v H1 R1 V1 P1 h1 => ?_)
  cases x with
  | sh d =>
    cases d with
    | bl b =>
      refine ⟨b, V1.bl, ?_⟩
      cases b with
      | true => exact iteT (hb B e1 σ H1 Q R1 (Goal.back P1 (fun _ z => z) h1))
      | false => exact iteF (h1 _ H1 R1 (RD.bl false) P1 trivial)
    | _ => exact h1.elim
  | _ => exact h1.elim
theorem ref_orV {ta tb : TE} {ma mb : ME} (ha : Ref c W ta ma) (hb : Ref c W tb mb) : Ref c W (tOrV ta tb) (mOrV ma mb) := by
  intro B env σ H Q R g
  refine ha B env σ H _ R (Goal.next Post.refl (fun _ z => z) g fun x e1 v H1 R1 V1 P1 h1 => ?_)
  cases x with
  | sh d =>
    cases d with
    | bl b =>
      refine ⟨b, V1.bl, ?_⟩
      cases b with
      | true => exact iteT (h1 _ H1 R1 (RD.bl true) P1 trivial)
      | false => exact iteF (hb B e1 σ H1 Q R1 (Goal.back P1 (fun _ z => z) h1))
    | _ => exact h1.elim
  | _ => exact h1.elim
theorem ref_notV {ta : TE} {ma : ME} (ha : Ref c W ta ma) : Ref c W (tNotV ta) (mNotV ma) := by
  intro B env σ H Q R g
  refine ha B env σ H _ R (Goal.next Post.refl (fun _ z => z) g fun x e1 v H1 R1 V1 P1 h1 => ?_)
  cases x with
  | sh d =>
    cases d with
    | bl b => exact ⟨b, V1.bl, h1 _ H1 R1 (RD.bl _) P1 trivial⟩
    | _ => exact h1.elim
  | _ => exact h1.elim
theorem ref_chain {r r' : R2} {f g : D → D → OR} {ta tb tc : TE} {ma mb mc : ME} (ho : Op2 c r f) (ho' : Op2 c r' g) (ha : Ref c W ta ma) (hb : Ref c W tb mb) (hc : Ref c W tc mc) : Ref c W (tChain r r' ta tb tc) (mChain f g ma mb mc) := by
  intro B env σ H Q R h
  refine ha B env σ H _ R (Goal.next Post.refl (fun _ z => z) h fun x e1 v H1 R1 V1 P1 h1 => ?_)
  refine hb _ e1 σ H1 _ R1 (Goal.next P1 addB_sub h1 fun y e2 u H2 R2 V2 P2 h2 => ?_)
  have V1' := V1.step P2
  have hBB : ∀ a, B a → addB (addB B x v) y u a := fun a z => addB_sub a (addB_sub a z)
  cases ex : x.view e2 with
  | none => rw [ex] at h2; exact h2.elim
  | some a =>
    cases ey : y.view e2 with
    | none => rw [ex, ey] at h2; exact h2.elim
    | some b =>
      rw [ex, ey] at h2
      dsimp only at h2
      refine ho (AvE B e2 σ) H2 v u a b _ (V1'.top R2 hBB ex) ((V2.top R2 addB_sub ey).mono (AvE.mono addB_sub)) ?_
      cases hf : f a b with
      | stuck => rw [hf] at h2; exact h2.elim
      | new d => rw [hf] at h2; exact h2.elim
      | mk d => rw [hf] at h2; exact h2.elim
      | sh d =>
        cases d with
        | bl k =>
          intro z rz
          cases rz
          refine ⟨k, rfl, ?_⟩
          rw [hf] at h2
          cases k with
          | false => exact iteF (h2 _ H2 (R2.weak hBB) (RD.bl false) (P1.trans P2) trivial)
          | true =>
            refine iteT (hc _ e2 σ H2 _ R2 (Goal.next (P1.trans P2) hBB h2 fun z e3 w H3 R3 V3 P3 h3 => ?_))
            have V2' := V2.step P3
            cases ey' : y.view e3 with
            | none => rw [ey'] at h3; exact h3.elim
            | some b' =>
              cases ez : z.view e3 with
              | none => rw [ey', ez] at h3; exact h3.elim
              | some d =>
                rw [ey', ez] at h3
                exact ho' (AvE B e3 σ) H3 u w b' d Q ((V2'.top R3 (fun a z => addB_sub a (addB_sub a z)) ey').mono (AvE.mono addB_sub)) ((V3.top R3 addB_sub ez).mono (AvE.mono hBB)) (Goal.ends ((P1.trans P2).trans P3) R3 (fun a z => addB_sub a (hBB a z)) h3)
        | _ => rw [hf] at h2; exact h2.elim
/-! ### argument lists -/
theorem addBs_sub : ∀ {xs : List DVal} {vs : List V} {B : Addr → Prop} (a : Addr), B a → addBs B xs vs a
  | [], _, _, _, h => h
  | _ :: _, [], _, _, h => h
  | x :: xs, v :: vs, _, a, h => addBs_sub (xs := xs) (vs := vs) a (addB_sub a h)
theorem VRs.step {xs : List DVal} {vs : List V} (P : Post env σ H env' H') {B : Addr → Prop} (h : VRs c env σ H B xs vs) : VRs c env' σ H' B xs vs := by
  induction h with
  | nil => exact .nil
  | cons a _ ih => exact .cons (a.step P) ih
theorem VRs.tops {xs : List DVal} {vs : List V} {ds : List D} {B0 : Addr → Prop} {B : Addr → Prop} (h : VRs c env σ H B xs vs) (R : REnv c B0 env σ H) (hs : ∀ a, addBs B xs vs a → B0 a) {Bt : Addr → Prop} (ht : ∀ a, Bt a → B a) (e : views env xs = some ds) : RTs c (AvE Bt env σ) H vs ds := by
  induction h generalizing ds with
  | nil => cases e; exact .nil
  | @cons B x v xs vs a _ ih =>
    unfold views at e
    cases ex : x.view env with
    | none => rw [ex] at e; cases e
    | some d =>
      cases es : views env xs with
      | none => rw [ex, es] at e; cases e
      | some ds' =>
        rw [ex, es] at e; cases e
        exact .cons ((a.top R (fun b z => hs b (addBs_sub (xs := xs) (vs := vs) b (addB_sub b z))) ex).mono (AvE.mono ht)) (ih hs (fun b z => addB_sub b (ht b z)) es)
theorem ref_nil : RefA c W tNil mNil := fun B env σ H Q R h => h [] H R .nil Post.refl
theorem GoalA.next {Q : List V → Hp → Prop} {Q1 : VK} {r : DRes DVal} {k : DVal → DEnv → DRes (List DVal)} (P : Post env σ H env1 H1) (hB : ∀ a, B a → B1 a) (h : GoalA c W B env σ H Q (r.bind k))
    (hk : ∀ val env2 v H2, REnv c (addB B1 val v) env2 σ H2 → VR c B1 env2 σ H2 val v → Post env1 σ H1 env2 H2 → GoalA c W B env σ H Q (k val env2) → Q1 v H2) : Goal c W B1 env1 σ H1 Q1 r := by
  cases r with
  | stuck => exact h
  | exc x e => exact fun cls dx H' R X P2 => h cls dx H' (R.weak hB) (X.mono (AvE.mono hB)) (P.trans P2)
  | ok val e => exact fun v H' R V P2 _ => hk val e v H' R V P2 h
theorem ref_cons {te : TE} {ta : TA} {m : ME} {mr : MA} (h : Ref c W te m) (hr : RefA c W ta mr) : RefA c W (tCons te ta) (mCons m mr) := by
  intro B env σ H Q R g
  refine h B env σ H _ R (GoalA.next Post.refl (fun _ z => z) g fun x e1 v H1 R1 V1 P1 h1 => ?_)
  refine hr _ e1 σ H1 _ R1 ?_
  cases hm : mr e1 with
  | stuck => rw [hm] at h1; exact h1
  | exc y e => rw [hm] at h1; exact fun cls dx H' R2 X P2 => h1 cls dx H' (R2.weak addB_sub) (X.mono (AvE.mono addB_sub)) (P1.trans P2)
  | ok xs e => rw [hm] at h1; exact fun vs H' R2 V2 P2 => h1 (v :: vs) H' R2 (.cons (V1.step P2) V2) (P1.trans P2)
theorem Goal.nextA {Q : VK} {Q1 : List V → Hp → Prop} {r : DRes (List DVal)} {k : List DVal → DEnv → DRes DVal} (P : Post env σ H env1 H1) (hB : ∀ a, B a → B1 a) (h : Goal c W B env σ H Q (r.bind k))
    (hk : ∀ xs env2 vs H2, REnv c (addBs B1 xs vs) env2 σ H2 → VRs c env2 σ H2 B1 xs vs → Post env1 σ H1 env2 H2 → Goal c W B env σ H Q (k xs env2) → Q1 vs H2) : GoalA c W B1 env1 σ H1 Q1 r := by
  cases r with
  | stuck => exact h
  | exc x e => exact fun cls dx H' R X P2 => h cls dx H' (R.weak hB) (X.mono (AvE.mono hB)) (P.trans P2)
  | ok val e => exact fun v H' R V P2 => hk val e v H' R V P2 h
theorem ref_call {r : List V → Hp → VK → Prop} {f : List D → OR} {ta : TA} {ma : MA} (ho : OpN c r f) (ha : RefA c W ta ma) : Ref c W (tCB r ta) (mCall f ma) := by
  intro B env σ H Q R h
  refine ha B env σ H _ R (Goal.nextA Post.refl (fun _ z => z) h fun xs e1 vs H1 R1 V1 P1 h1 => ?_)
  cases ex : views e1 xs with
  | none => rw [ex] at h1; exact h1.elim
  | some ds =>
    rw [ex] at h1
    exact ho (AvE B e1 σ) H1 vs ds Q (V1.tops R1 (fun _ z => z) (fun _ z => z) ex) (Goal.ends P1 R1 (fun a z => addBs_sub a z) h1)
end
end Q

set_option linter.all false
set_option maxRecDepth 100000
set_option maxHeartbeats 4000000
namespace Q
open PySem PySem.Spec PyProof.Rows L2
/-! ### data as the library's data -/
mutual
def D.py : D → PyData
  | .non => .none
  | .bl b => .bool b
  | .int i => .int i
  | .str x => .str x
  | .tup ds => .tuple (pyAll ds)
  | .lst ds => .list (pyAll ds)
  | .dct kvs => .dict (pyKv kvs)
  | .obj _ _ => .none
  | .fn _ => .none
  | .exc _ _ _ => .none
def pyAll : List D → List PyData
  | [] => []
  | d :: ds => d.py :: pyAll ds
def pyKv : List (D × D) → List (PyData × PyData)
  | [] => []
  | (k, v) :: r => (k.py, v.py) :: pyKv r
end
mutual
/-- no dicts, no objects -/
def D.flat : D → Bool
  | .non => true
  | .bl _ => true
  | .int _ => true
  | .str _ => true
  | .tup ds => flatAll ds
  | .lst ds => flatAll ds
  | _ => false
def flatAll : List D → Bool
  | [] => true
  | d :: ds => d.flat && flatAll ds
end
section
variable {K : PySem.W.Frag} {mg : Str → Option Value} {Av : Addr → Prop} {H : Hp}
mutual
theorem RD.dp {v : V} {d : D} (h : RD K mg Av H v d) (hf : d.flat = true) : Dp K H v d.py := match h with
  | .non => .non
  | .bl b => .bl b
  | .int i => .int i
  | .str x => .str x
  | .tup h1 _ h3 => .tup (.inl h1) (RDs.dp h3 hf)
  | .tupK h1 h3 => .tup (.inr h1) (RDs.dp h3 hf)
  | .lst h1 _ h3 => .lst (.inl h1) (RDs.dp h3 hf)
  | .lstK h1 h3 => .lst (LstAt.sq (.inr h1)) (RDs.dp h3 hf)
  | .dct _ _ _ _ => Bool.noConfusion hf
  | .obj _ _ _ _ _ => Bool.noConfusion hf
  | .fn _ => Bool.noConfusion hf
  | .exc0 _ _ _ _ _ => Bool.noConfusion hf
  | .exc1 _ _ _ _ _ _ _ => Bool.noConfusion hf
theorem RDs.dp {vs : List V} {ds : List D} (h : RDs K mg Av H vs ds) (hf : flatAll ds = true) : DpAll K H vs (pyAll ds) := match h with
  | .nil => .nil
  | .cons a b => .cons (RD.dp a ((Bool.and_eq_true _ _).mp hf).1) (RDs.dp b ((Bool.and_eq_true _ _).mp hf).2)
end
theorem RT.dp {v : V} {d : D} (h : RT K mg Av H v d) (hf : d.flat = true) : Dp K H v d.py := match h with
  | .non => .non
  | .bl b => .bl b
  | .int i => .int i
  | .str x => .str x
  | .tup h1 h3 => .tup h1 (RDs.dp h3 hf)
  | .lst h1 h3 => .lst h1.sq (RDs.dp h3 hf)
  | .dct _ _ _ => Bool.noConfusion hf
  | .obj _ _ _ _ => Bool.noConfusion hf
  | .fn _ => Bool.noConfusion hf
  | .exc0 _ _ _ => Bool.noConfusion hf
  | .exc1 _ _ _ _ _ => Bool.noConfusion hf
mutual
theorem plain_py : ∀ {d : D}, d.flat = true → d.py.plain = true
  | .non, _ => rfl
  | .bl _, _ => rfl
  | .int _, _ => rfl
  | .str _, _ => rfl
  | .tup ds, h => plain_pyAll (ds := ds) h
  | .lst ds, h => plain_pyAll (ds := ds) h
  | .dct _, h => Bool.noConfusion h
  | .obj _ _, h => Bool.noConfusion h
  | .fn _, h => Bool.noConfusion h
  | .exc _ _ _, h => Bool.noConfusion h
theorem plain_pyAll : ∀ {ds : List D}, flatAll ds = true → PyData.plainAll (pyAll ds) = true
  | [], _ => rfl
  | d :: ds, h => by
    have h' := (Bool.and_eq_true _ _).mp h
    exact (Bool.and_eq_true _ _).mpr ⟨plain_py h'.1, plain_pyAll h'.2⟩
end
end
/-! ### operations on data -/
def rD2 (c : DCtx) (f : D → D → OR) : R2 := fun x y H Q => ∃ Av a b, RT c.K c.mg Av H x a ∧ RT c.K c.mg Av H y b ∧ OGoal c Av H Q (f a b)
def rDN (c : DCtx) (f : List D → OR) : List V → Hp → VK → Prop := fun vs H Q => ∃ Av ds, RTs c Av H vs ds ∧ OGoal c Av H Q (f ds)
theorem op2_rD (c : DCtx) (f : D → D → OR) : Op2 c (rD2 c f) f := fun Av H x y a b Q h1 h2 g => ⟨Av, a, b, h1, h2, g⟩
theorem opN_rD (c : DCtx) (f : List D → OR) : OpN c (rDN c f) f := fun Av H vs ds Q h1 g => ⟨Av, ds, h1, g⟩
theorem own_lst {c : DCtx} {Av : Addr → Prop} {H : Hp} {p : Addr} {vs : List V} {ds : List D} (hp : H p = none) (h : RDs c.K c.mg Av H vs ds) : Own c.K c.mg (fun a => Av a ∨ a = p) (L2.upd H p (.lst vs)) p (.lst ds) :=
  ⟨vs, upd_same, (h.fresh hp).keep (fun _ z => z) (A := fun _ => False) (fun _ z => z.elim) (Kep.new hp)⟩
theorem OGoal.lst {c : DCtx} {Av : Addr → Prop} {H : Hp} {Q : VK} {vs : List V} {ds : List D} (g : OGoal c Av H Q (.new (.lst ds))) (h : RDs c.K c.mg Av H vs ds) : ∀ p, H p = none → Q (.ref p) (L2.upd H p (.lst vs)) := fun p hp =>
  g p _ hp (Kep.new hp) (fun a u e => ⟨u, by rw [upd_ne (ne_of_none e hp)]; exact e⟩) (own_lst hp h)

def addD : D → D → OR
  | .int i, .int j => .sh (.int (i + j))
  | .str x, .str y => if x.length + y.length ≤ sizeLine then .sh (.str (x ++ y)) else .stuck
  | .lst xs, .lst ys => if xs.length + ys.length ≤ sizeLine then .new (.lst (xs ++ ys)) else .stuck
  | _, _ => .stuck
def subD : D → D → OR
  | .int i, .int j => .sh (.int (i - j))
  | _, _ => .stuck
def repStr (x : Str) (n : Nat) : Str := ⟨((List.replicate n x.cps.toList).flatten).toArray⟩
def mulD : D → D → OR
  | .int i, .int j => if i.natAbs.log2 + j.natAbs.log2 < 1000000 then .sh (.int (i * j)) else .stuck
  | .str x, .int n => if 2 ≤ n ∧ n ≤ 100000 ∧ x.length = 1 ∧ (⟨(List.replicate n.toNat x.cps).foldl (· ++ ·) #[]⟩ : Str).length ≤ sizeLine then .sh (.str ⟨(List.replicate n.toNat x.cps).foldl (· ++ ·) #[]⟩) else .stuck
  | _, _ => .stuck
def fdivD : D → D → OR
  | .int i, .int j => if 0 < j ∧ j.natAbs.log2 < 9000 then .sh (.int (i / j)) else .stuck
  | _, _ => .stuck
def modD : D → D → OR
  | .int i, .int j => if 0 < j then .sh (.int (i % j)) else .stuck
  | _, _ => .stuck
def powD : D → D → OR
  | .int i, .int j => if 0 ≤ j ∧ (Builtin.Int.intBits i : Int) * j ≤ 2 ^ 27 then .sh (.int (i ^ j.toNat)) else .stuck
  | _, _ => .stuck
def eqB (a b : D) : Option Bool := if a.flat && b.flat && decide (min a.py.depth b.py.depth ≤ 60) then some (PyData.eqv a.py b.py) else none
def eqD (a b : D) : OR := match eqB a b with
  | some k => .sh (.bl k)
  | none => .stuck
def neD (a b : D) : OR := match eqB a b with
  | some k => .sh (.bl (!k))
  | none => .stuck
def ltD : D → D → OR
  | .int i, .int j => .sh (.bl (decide (i < j)))
  | _, _ => .stuck
def leD : D → D → OR
  | .int i, .int j => .sh (.bl (decide (i ≤ j)))
  | _, _ => .stuck
def gtD : D → D → OR
  | .int i, .int j => .sh (.bl (decide (j < i)))
  | _, _ => .stuck
def geD : D → D → OR
  | .int i, .int j => .sh (.bl (decide (j ≤ i)))
  | _, _ => .stuck
def inB (a : D) : D → Option Bool
  | .lst ds => if a.flat && flatAll ds && decide (a.py.depth ≤ 60) then some ((pyAll ds).any fun y => PyData.eqv y a.py) else none
  | .tup ds => if a.flat && flatAll ds && decide (a.py.depth ≤ 60) then some ((pyAll ds).any fun y => PyData.eqv y a.py) else none
  | _ => none
def inD (a b : D) : OR := match inB a b with
  | some k => .sh (.bl k)
  | none => .stuck
def notInD (a b : D) : OR := match inB a b with
  | some k => .sh (.bl (!k))
  | none => .stuck
section
variable {X : Cx} {c : DCtx}
theorem inT {A : Prop} [Decidable A] {x y : OR} {P : OR → Prop} (hy : ¬ P y) (h : P (if A then x else y)) : A ∧ P x := by
  by_cases hA : A
  · rw [if_pos hA] at h; exact ⟨hA, h⟩
  · rw [if_neg hA] at h; exact (hy h).elim
theorem opr_add (hK : c.K = X.K) : OpR X (binaryOp .Add) (rD2 c addD) := by
  intro pins s σ H x y v u Q I rx ry ⟨Av, a, b, ha, hb, g⟩
  cases a <;> cases b <;> (try exact g.elim)
  · cases ha; cases hb
    exact op_add pins s σ H _ _ _ _ Q I rx ry ⟨_, _, rfl, rfl, g _ (.int _)⟩
  · cases ha; cases hb
    obtain ⟨hs, g⟩ := inT (y := OR.stuck) (P := OGoal c Av H Q) (fun z => z) g
    exact op_add_str pins s σ H _ _ _ _ Q I rx ry ⟨_, _, rfl, rfl, hs, g _ (.str _)⟩
  · cases ha with
    | lst h1 h2 =>
      cases hb with
      | lst h3 h4 =>
        obtain ⟨hs, g⟩ := inT (y := OR.stuck) (P := OGoal c Av H Q) (fun z => z) g
        rw [← h2.length, ← h4.length] at hs
        rw [hK] at h1 h3
        obtain ⟨z, its, n, r, hl, e⟩ := h1.at I
        obtain ⟨z2, its2, n2, r2, hl2, e2⟩ := h3.at I
        cases rx; cases ry
        refine PySem.P.add_list e e2 ?_ (by rw [List.size_toArray, List.size_toArray]; omega)
        have ea : its.toArray ++ its2.toArray = (its ++ its2).toArray := by simp
        rw [ea]
        exact ⟨.ref _, _, I.lnew (t' := s.toks) (r.append r2) (by rw [List.length_append]; exact hs), rfl, g.lst (h2.append h4) _ I.fresh⟩
theorem opr_sub : OpR X (binaryOp .Sub) (rD2 c subD) := by
  intro pins s σ H x y v u Q I rx ry ⟨Av, a, b, ha, hb, g⟩
  cases a <;> cases b <;> (try exact g.elim)
  cases ha; cases hb
  exact op_sub pins s σ H _ _ _ _ Q I rx ry ⟨_, _, rfl, rfl, g _ (.int _)⟩
theorem opr_mul : OpR X (binaryOp .Mult) (rD2 c mulD) := by
  intro pins s σ H x y v u Q I rx ry ⟨Av, a, b, ha, hb, g⟩
  cases a <;> cases b <;> (try exact g.elim)
  · cases ha; cases hb
    obtain ⟨hs, g⟩ := inT (y := OR.stuck) (P := OGoal c Av H Q) (fun z => z) g
    exact op_mulW pins s σ H _ _ _ _ Q I rx ry ⟨_, _, rfl, rfl, hs, g _ (.int _)⟩
  · cases ha; cases hb
    obtain ⟨⟨h1, h2, h3, h4⟩, g⟩ := inT (y := OR.stuck) (P := OGoal c Av H Q) (fun z => z) g
    obtain ⟨t, rfl⟩ := rx
    obtain ⟨t', rfl⟩ := ry
    rename_i x n _
    have e1 : ¬ n < -(2 ^ 63 : Int) := by omega
    have e2 : ¬ n ≥ (2 ^ 63 : Int) := by omega
    have e3 : ¬ n < 1 := by omega
    have e4 : (n == 1 || x.length == 0) = false := by
      have q1 : (n == 1) = false := by simpa using (show n ≠ 1 by omega)
      have q2 : (x.length == 0) = false := by rw [h3]; rfl
      rw [q1, q2]; rfl
    refine PySem.P.mul_str (by rw [decide_eq_false e1, decide_eq_false e2]; rfl) (fun _ _ => by rw [h3]; have : (2 ^ 63 - 1 : Int) / n ≥ 1 := Int.le_ediv_of_mul_le (by omega) (by omega); omega) (fun _ _ => ?_) ?_
    · unfold Builtin.Str.tooLong
      rw [h3]
      have : sizeLine = 16777216 := sizeLine_eq
      exact decide_eq_false (by omega)
    · rw [if_neg e3, if_neg (by rw [e4]; decide)]
      exact ⟨h4, ⟨.str _, H, I.tok _, ⟨_, rfl⟩, g _ (.str _)⟩⟩
theorem opr_fdiv : OpR X (binaryOp .FloorDiv) (rD2 c fdivD) := by
  intro pins s σ H x y v u Q I rx ry ⟨Av, a, b, ha, hb, g⟩
  cases a <;> cases b <;> (try exact g.elim)
  cases ha; cases hb
  obtain ⟨hs, g⟩ := inT (y := OR.stuck) (P := OGoal c Av H Q) (fun z => z) g
  exact op_fdivW pins s σ H _ _ _ _ Q I rx ry ⟨_, _, rfl, rfl, hs, g _ (.int _)⟩
theorem opr_mod : OpR X (binaryOp .Mod) (rD2 c modD) := by
  intro pins s σ H x y v u Q I rx ry ⟨Av, a, b, ha, hb, g⟩
  cases a <;> cases b <;> (try exact g.elim)
  cases ha; cases hb
  obtain ⟨hs, g⟩ := inT (y := OR.stuck) (P := OGoal c Av H Q) (fun z => z) g
  exact op_mod pins s σ H _ _ _ _ Q I rx ry ⟨_, _, rfl, rfl, hs, g _ (.int _)⟩
theorem opr_pow : OpR X (binaryOp .Pow) (rD2 c powD) := by
  intro pins s σ H x y v u Q I rx ry ⟨Av, a, b, ha, hb, g⟩
  cases a <;> cases b <;> (try exact g.elim)
  cases ha; cases hb
  obtain ⟨hs, g⟩ := inT (y := OR.stuck) (P := OGoal c Av H Q) (fun z => z) g
  obtain ⟨t, rfl⟩ := (show ∃ t, v = Value.int _ t from rx)
  obtain ⟨t', rfl⟩ := (show ∃ t, u = Value.int _ t from ry)
  exact pow_int hs.1 hs.2 ⟨.int _, H, I.tok _, ⟨_, rfl⟩, g _ (.int _)⟩
theorem opr_eq (hK : c.K = X.K) (hu : X.A.units + 64 < cLine) : OpR X (compareOp .Eq) (rD2 c eqD) := by
  intro pins s σ H x y v u Q I rx ry ⟨Av, a, b, ha, hb, g⟩
  unfold eqD eqB at g
  split at g
  · rename_i k e
    split at e
    · rename_i hc
      cases e
      rw [Bool.and_eq_true, Bool.and_eq_true] at hc
      obtain ⟨⟨fa, fb⟩, hd⟩ := hc
      have hd' := of_decide_eq_true hd
      rw [hK] at ha hb
      obtain ⟨as, r1⟩ := Dp.reads I _ x v (ha.dp fa) rx
      obtain ⟨bs, r2⟩ := Dp.reads I _ y u (hb.dp fb) ry
      exact SeqAt.eq_plain r1 r2 (plain_py fa) (plain_py fb) (by omega) ⟨.bl _, H, I, rfl, g _ (.bl _)⟩
    · cases e
  · exact g.elim
theorem opr_ne (hK : c.K = X.K) (hu : X.A.units + 64 < cLine) : OpR X (compareOp .NotEq) (rD2 c neD) := by
  intro pins s σ H x y v u Q I rx ry ⟨Av, a, b, ha, hb, g⟩
  unfold neD eqB at g
  split at g
  · rename_i k e
    split at e
    · rename_i hc
      cases e
      rw [Bool.and_eq_true, Bool.and_eq_true] at hc
      obtain ⟨⟨fa, fb⟩, hd⟩ := hc
      have hd' := of_decide_eq_true hd
      rw [hK] at ha hb
      obtain ⟨as, r1⟩ := Dp.reads I _ x v (ha.dp fa) rx
      obtain ⟨bs, r2⟩ := Dp.reads I _ y u (hb.dp fb) ry
      exact SeqAt.ne_plain r1 r2 (plain_py fa) (plain_py fb) (by omega) ⟨.bl _, H, I, rfl, g _ (.bl _)⟩
    · cases e
  · exact g.elim
theorem opr_lt : OpR X (compareOp .Lt) (rD2 c ltD) := by
  intro pins s σ H x y v u Q I rx ry ⟨Av, a, b, ha, hb, g⟩
  cases a <;> cases b <;> (try exact g.elim)
  cases ha; cases hb
  exact op_lt pins s σ H _ _ _ _ Q I rx ry ⟨_, _, rfl, rfl, g _ (.bl _)⟩
theorem opr_le : OpR X (compareOp .LtE) (rD2 c leD) := by
  intro pins s σ H x y v u Q I rx ry ⟨Av, a, b, ha, hb, g⟩
  cases a <;> cases b <;> (try exact g.elim)
  cases ha; cases hb
  exact op_le pins s σ H _ _ _ _ Q I rx ry ⟨_, _, rfl, rfl, g _ (.bl _)⟩
theorem opr_gt : OpR X (compareOp .Gt) (rD2 c gtD) := by
  intro pins s σ H x y v u Q I rx ry ⟨Av, a, b, ha, hb, g⟩
  cases a <;> cases b <;> (try exact g.elim)
  cases ha; cases hb
  exact op_gt pins s σ H _ _ _ _ Q I rx ry ⟨_, _, rfl, rfl, g _ (.bl _)⟩
theorem opr_ge : OpR X (compareOp .GtE) (rD2 c geD) := by
  intro pins s σ H x y v u Q I rx ry ⟨Av, a, b, ha, hb, g⟩
  cases a <;> cases b <;> (try exact g.elim)
  cases ha; cases hb
  exact op_ge pins s σ H _ _ _ _ Q I rx ry ⟨_, _, rfl, rfl, g _ (.bl _)⟩
theorem inB_reads (hK : c.K = X.K) {pins : List (Addr × Obj)} {s : Shared} {σ : L2.St} {H : Hp} {Av : Addr → Prop} {x y : V} {v u : Value} {a b : D} {k : Bool} (I : Inv X pins σ H s) (rx : RelV x v) (ry : RelV y u) (ha : RT c.K c.mg Av H x a) (hb : RT c.K c.mg Av H y b) (e : inB a b = some k) :
    ∃ ds as bs, a.py.plain = true ∧ PyData.plainAll (pyAll ds) = true ∧ a.py.depth ≤ 60 ∧ Reads s.heap v a.py as ∧ k = ((pyAll ds).any fun y => PyData.eqv y a.py) ∧ (Reads s.heap u (.list (pyAll ds)) bs ∨ Reads s.heap u (.tuple (pyAll ds)) bs) := by
  rw [hK] at ha hb
  cases b with
  | lst ds =>
    have e' : (if a.flat && flatAll ds && decide (a.py.depth ≤ 60) then some ((pyAll ds).any fun y => PyData.eqv y a.py) else none) = some k := e
    split at e'
    · rename_i hc
      cases e'
      rw [Bool.and_eq_true, Bool.and_eq_true] at hc
      obtain ⟨⟨fa, fb⟩, hd⟩ := hc
      obtain ⟨as, r1⟩ := Dp.reads I _ x v (ha.dp fa) rx
      obtain ⟨bs, r2⟩ := Dp.reads I _ y u (hb.dp (d := .lst ds) fb) ry
      exact ⟨ds, as, bs, plain_py fa, plain_pyAll fb, of_decide_eq_true hd, r1, rfl, .inl r2⟩
    · cases e'
  | tup ds =>
    have e' : (if a.flat && flatAll ds && decide (a.py.depth ≤ 60) then some ((pyAll ds).any fun y => PyData.eqv y a.py) else none) = some k := e
    split at e'
    · rename_i hc
      cases e'
      rw [Bool.and_eq_true, Bool.and_eq_true] at hc
      obtain ⟨⟨fa, fb⟩, hd⟩ := hc
      obtain ⟨as, r1⟩ := Dp.reads I _ x v (ha.dp fa) rx
      obtain ⟨bs, r2⟩ := Dp.reads I _ y u (hb.dp (d := .tup ds) fb) ry
      exact ⟨ds, as, bs, plain_py fa, plain_pyAll fb, of_decide_eq_true hd, r1, rfl, .inr r2⟩
    · cases e'
  | _ => cases e
theorem opr_in (hK : c.K = X.K) (hu : X.A.units + 64 < cLine) : OpR X (compareOp .In) (rD2 c inD) := by
  intro pins s σ H x y v u Q I rx ry ⟨Av, a, b, ha, hb, g⟩
  unfold inD at g
  split at g
  · rename_i k e
    obtain ⟨ds, as, bs, p1, p2, hd, r1, rfl, r2⟩ := inB_reads hK I rx ry ha hb e
    rcases r2 with r2 | r2
    · exact SeqAt.in_list_data r2 r1 p2 p1 (by omega) ⟨.bl _, H, I, rfl, g _ (.bl _)⟩
    · exact SeqAt.in_tuple_data r2 r1 p2 p1 (by omega) ⟨.bl _, H, I, rfl, g _ (.bl _)⟩
  · exact g.elim
theorem opr_notIn (hK : c.K = X.K) (hu : X.A.units + 64 < cLine) : OpR X (compareOp .NotIn) (rD2 c notInD) := by
  intro pins s σ H x y v u Q I rx ry ⟨Av, a, b, ha, hb, g⟩
  unfold notInD at g
  split at g
  · rename_i k e
    obtain ⟨ds, as, bs, p1, p2, hd, r1, rfl, r2⟩ := inB_reads hK I rx ry ha hb e
    rcases r2 with r2 | r2
    · exact SeqAt.notIn_list_data r2 r1 p2 p1 (by omega) ⟨.bl _, H, I, rfl, g _ (.bl _)⟩
    · exact SeqAt.notIn_tuple_data r2 r1 p2 p1 (by omega) ⟨.bl _, H, I, rfl, g _ (.bl _)⟩
  · exact g.elim
end
end Q

set_option linter.all false
set_option maxRecDepth 100000
set_option maxHeartbeats 4000000
namespace Q
open PySem PySem.Spec PyProof.Rows L2
/-! ### more operations -/
def ixD : D → D → OR
  | .lst ds, .int i => match atI ds i with
    | some d => .sh d
    | none => .stuck
  | .tup ds, .int i => match atI ds i with
    | some d => .sh d
    | none => .stuck
  | .str z, .int i => if z.length ≤ sizeLine then match atI z.cps.toList i with
    | some k => .sh (.str ⟨#[k]⟩)
    | none => .stuck else .stuck
  | _, _ => .stuck
def lenD : List D → OR
  | [.lst ds] => .sh (.int ds.length)
  | [.tup ds] => .sh (.int ds.length)
  | [.str z] => if z.length ≤ sizeLine then .sh (.int z.length) else .stuck
  | _ => .stuck
def absD : List D → OR
  | [.int i] => .sh (.int (if i < 0 then -i else i))
  | _ => .stuck
def intD : List D → OR
  | [.int i] => .sh (.int i)
  | [.bl k] => .sh (.int (if k then 1 else 0))
  | _ => .stuck
def max2D : List D → OR
  | [.int i, .int j] => .sh (.int (if j > i then j else i))
  | _ => .stuck
def min2D : List D → OR
  | [.int i, .int j] => .sh (.int (if j < i then j else i))
  | _ => .stuck
section
variable {X : Cx} {c : DCtx} {Av : Addr → Prop} {H : Hp}
theorem RDs.atI {K : PySem.W.Frag} {mg : Str → Option Value} {vs : List V} {ds : List D} (h : RDs K mg Av H vs ds) {i : Int} {d : D} (e : atI ds i = some d) : ∃ v, L2.atI vs i = some v ∧ RD K mg Av H v d := by
  unfold L2.atI at e ⊢
  rw [h.length]
  cases hx : ixN ds.length i with
  | none => rw [hx] at e; cases e
  | some j =>
    rw [hx] at e
    exact h.get e
theorem ixr (hK : c.K = X.K) : IxR X (rD2 c ixD) := by
  intro value slice pins s σ H x y v u Q I rx ry ⟨Av, a, b, ha, hb, g⟩ hs
  cases b with
  | int i =>
    cases hb
    cases a with
    | str z =>
      cases ha
      obtain ⟨hz, g⟩ := inT (y := OR.stuck) (P := OGoal c Av H Q) (fun z => z) g
      cases e : atI z.cps.toList i with
      | none => rw [e] at g; exact g.elim
      | some k =>
        rw [e] at g
        exact ix_str value slice pins s σ H _ _ _ _ Q I rx ry ⟨_, _, _, rfl, rfl, hz, e, g _ (.str _)⟩ hs
    | tup ds =>
      cases ha with
      | tup h1 h2 =>
        have g' : OGoal c Av H Q (match atI ds i with | some d => .sh d | none => .stuck) := g
        cases e : atI ds i with
        | none => rw [e] at g'; exact g'.elim
        | some d =>
          rw [e] at g'
          obtain ⟨z, e1, e2⟩ := h2.atI e
          rw [hK] at h1
          exact ix_tup value slice pins s σ H _ _ _ _ Q I rx ry ⟨_, _, _, _, rfl, rfl, h1, e1, g' _ e2⟩ hs
    | lst ds =>
      cases ha with
      | lst h1 h2 =>
        have g' : OGoal c Av H Q (match atI ds i with | some d => .sh d | none => .stuck) := g
        cases e : atI ds i with
        | none => rw [e] at g'; exact g'.elim
        | some d =>
          rw [e] at g'
          obtain ⟨z, e1, e2⟩ := h2.atI e
          rw [hK] at h1
          exact ix_list value slice pins s σ H _ _ _ _ Q I rx ry ⟨_, _, _, _, rfl, rfl, h1.sq, e1, g' _ e2⟩ hs
    | _ => exact g.elim
  | _ => cases a <;> exact g.elim
theorem rts1 {vs : List V} {d : D} (h : RTs c Av H vs [d]) : ∃ v, vs = [v] ∧ RT c.K c.mg Av H v d := by
  cases h with
  | cons a b => cases b; exact ⟨_, rfl, a⟩
theorem rts2 {vs : List V} {d e : D} (h : RTs c Av H vs [d, e]) : ∃ v w, vs = [v, w] ∧ RT c.K c.mg Av H v d ∧ RT c.K c.mg Av H w e := by
  cases h with
  | cons a b =>
    cases b with
    | cons a' b' => cases b'; exact ⟨_, _, rfl, a, a'⟩
theorem cr_len (hK : c.K = X.K) : CallR X (.builtin "len") (rDN c lenD) := by
  intro pins s σ H xs us Q I r ⟨Av, ds, h, g⟩
  unfold lenD at g
  split at g
  · obtain ⟨v, rfl, ht⟩ := rts1 h
    cases ht with
    | lst h1 h2 => rw [hK] at h1; exact call_len_seq pins s σ H _ us Q I r ⟨_, _, rfl, .inl h1.sq, by rw [h2.length]; exact g _ (.int _)⟩
  · obtain ⟨v, rfl, ht⟩ := rts1 h
    cases ht with
    | tup h1 h2 => rw [hK] at h1; exact call_len_seq pins s σ H _ us Q I r ⟨_, _, rfl, .inr h1, by rw [h2.length]; exact g _ (.int _)⟩
  · obtain ⟨hz, g⟩ := inT (y := OR.stuck) (P := OGoal c Av H Q) (fun z => z) g
    obtain ⟨v, rfl, ht⟩ := rts1 h
    cases ht
    exact call_len_str pins s σ H _ us Q I r ⟨_, rfl, hz, g _ (.int _)⟩
  · exact g.elim
theorem cr_abs : CallR X (.builtin "abs") (rDN c absD) := by
  intro pins s σ H xs us Q I r ⟨Av, ds, h, g⟩
  unfold absD at g
  split at g
  · obtain ⟨v, rfl, ht⟩ := rts1 h
    cases ht
    exact call_abs pins s σ H _ us Q I r ⟨_, rfl, g _ (.int _)⟩
  · exact g.elim
theorem cr_int : CallR X (.type "int") (rDN c intD) := by
  intro pins s σ H xs us Q I r ⟨Av, ds, h, g⟩
  unfold intD at g
  split at g
  · obtain ⟨v, rfl, ht⟩ := rts1 h
    cases ht
    exact call_int1 pins s σ H _ us Q I r (.inl ⟨_, rfl, g _ (.int _)⟩)
  · obtain ⟨v, rfl, ht⟩ := rts1 h
    cases ht
    exact call_int1 pins s σ H _ us Q I r (.inr ⟨_, rfl, g _ (.int _)⟩)
  · exact g.elim
theorem cr_max2 (hc : X.calm = true) : CallR X (.builtin "max") (rDN c max2D) := by
  intro pins s σ H xs us Q I r ⟨Av, ds, h, g⟩
  unfold max2D at g
  split at g
  · obtain ⟨v, w, rfl, ht, hw⟩ := rts2 h
    cases ht; cases hw
    exact call_max2 hc pins s σ H _ us Q I r ⟨_, _, rfl, g _ (.int _)⟩
  · exact g.elim
theorem cr_min2 (hc : X.calm = true) : CallR X (.builtin "min") (rDN c min2D) := by
  intro pins s σ H xs us Q I r ⟨Av, ds, h, g⟩
  unfold min2D at g
  split at g
  · obtain ⟨v, w, rfl, ht, hw⟩ := rts2 h
    cases ht; cases hw
    exact call_min2 hc pins s σ H _ us Q I r ⟨_, _, rfl, g _ (.int _)⟩
  · exact g.elim
end
/-! ### displays: what is put in is let go by its owner -/
def frees : List DVal → Option (List D)
  | [] => some []
  | .sh d :: xs => (frees xs).map (d :: ·)
  | .new d :: xs => (frees xs).map (d :: ·)
  | .own _ :: _ => none
def mLst (ma : MA) : ME := fun env => (ma env).bind fun xs e => match frees xs with
  | some ds => if ds.length ≤ sizeLine then .ok (.new (.lst ds)) e else .stuck
  | none => .stuck
def mTup (ma : MA) : ME := fun env => (ma env).bind fun xs e => match frees xs with
  | some ds => if ds.length ≤ sizeLine then .ok (.sh (.tup ds)) e else .stuck
  | none => .stuck
section
variable {c : DCtx} {B B' B1 : Addr → Prop} {env env' env1 env2 : DEnv} {σ : L2.St} {H H' H1 H2 : Hp} {W : WX}
theorem VR.free {x : DVal} {v : V} {d : D} (h : VR c B env σ H x v) (e : frees [x] = some [d]) {Bt : Addr → Prop} (ht : ∀ a, Bt a → B a) : RD c.K c.mg (AvE Bt env σ) H v d := by
  cases x with
  | sh d' => cases e; exact RD.mono h (AvE.mono ht)
  | new d' =>
    cases e
    obtain ⟨p, rfl, n, _, o⟩ := h
    exact Own.free o (AvE.mono fun a z => addB_sub a (ht a z)) fun z => n (AvE.mono ht _ z)
  | own i => cases e
theorem VRs.free {xs : List DVal} {vs : List V} {ds : List D} (h : VRs c env σ H B xs vs) {Bt : Addr → Prop} (ht : ∀ a, Bt a → B a) (e : frees xs = some ds) : RDs c.K c.mg (AvE Bt env σ) H vs ds := by
  induction h generalizing ds with
  | nil => cases e; exact .nil
  | @cons B x v xs vs a _ ih =>
    cases x with
    | own i => cases e
    | sh d =>
      cases hf : frees xs with
      | none => simp [frees, hf] at e
      | some ds' =>
        simp [frees, hf] at e
        subst e
        exact .cons (VR.free a rfl ht) (ih (fun b z => addB_sub b (ht b z)) hf)
    | new d =>
      cases hf : frees xs with
      | none => simp [frees, hf] at e
      | some ds' =>
        simp [frees, hf] at e
        subst e
        exact .cons (VR.free a rfl ht) (ih (fun b z => addB_sub b (ht b z)) hf)
theorem ref_lst {ta : TA} {ma : MA} (ha : RefA c W ta ma) : Ref c W (tLst ta) (mLst ma) := by
  intro B env σ H Q R h
  refine ha B env σ H _ R (Goal.nextA Post.refl (fun _ z => z) h fun xs e1 vs H1 R1 V1 P1 h1 => ?_)
  cases ex : frees xs with
  | none => rw [ex] at h1; exact h1.elim
  | some ds =>
    rw [ex] at h1
    dsimp only at h1
    by_cases hs : ds.length ≤ sizeLine
    · rw [if_pos hs] at h1
      have V := V1.free (Bt := B) (fun _ z => z) ex
      refine ⟨by rw [V.length]; exact hs, fun p hp => ?_⟩
      exact OGoal.lst (Goal.ends (W := W) (r := .new (.lst ds)) P1 R1 (fun a z => addBs_sub a z) h1) V p hp
    · rw [if_neg hs] at h1; exact h1.elim
theorem rd_tup {Av : Addr → Prop} {p : Addr} {vs : List V} {ds : List D} (hp : H p = none) (ha : ¬ Av p) (h : RDs c.K c.mg Av H vs ds) : RD c.K c.mg Av (L2.upd H p (.tup vs)) (.ref p) (.tup ds) :=
  .tup (Rd.of upd_same) ha (h.keep (fun _ z => z) (A := fun _ => False) (fun _ z => z.elim) (Kep.new hp))
theorem ref_tup {ta : TA} {ma : MA} (ha : RefA c W ta ma) : Ref c W (tTup ta) (mTup ma) := by
  intro B env σ H Q R h
  refine ha B env σ H _ R (Goal.nextA Post.refl (fun _ z => z) h fun xs e1 vs H1 R1 V1 P1 h1 => ?_)
  cases ex : frees xs with
  | none => rw [ex] at h1; exact h1.elim
  | some ds =>
    rw [ex] at h1
    dsimp only at h1
    by_cases hs : ds.length ≤ sizeLine
    · rw [if_pos hs] at h1
      have V := V1.free (Bt := B) (fun _ z => z) ex
      refine ⟨by rw [V.length]; exact hs, fun p hp => ?_⟩
      exact Goal.ends (W := W) (r := .mk (.tup ds)) P1 R1 (fun a z => addBs_sub a z) h1 _ _ (Kep.new hp) (dom_new hp) (rd_tup hp (fun z => R1.free hp (AvE.mono (fun a z => addBs_sub a z) _ z)) V)
    · rw [if_neg hs] at h1; exact h1.elim
/-! ### what an owner changes -/
theorem isOwn_set {i : Nat} {d0 d1 : D} (hi : env[i]? = some (DSlot.own d0)) (j : Nat) : (∃ d : D, (env.set i (DSlot.own d1))[j]? = some (DSlot.own d)) ↔ (∃ d : D, env[j]? = some (DSlot.own d)) := by
  by_cases hj : i = j
  · subst hj
    have hl : i < env.length := (List.getElem?_eq_some_iff.mp hi).1
    rw [List.getElem?_set_self hl]
    exact ⟨fun _ => ⟨_, hi⟩, fun _ => ⟨_, rfl⟩⟩
  · rw [List.getElem?_set_ne hj]
theorem REnv.write (R : REnv c B env σ H) {i : Nat} {p : Addr} {d0 d1 : D} {o : HO} (hi : env[i]? = some (DSlot.own d0)) (hp : σ[i]? = some (some (V.ref p))) (ho : Own c.K c.mg (AvE B env σ) (L2.upd H p o) p d1) :
    REnv c B (env.set i (.own d1)) σ (L2.upd H p o) ∧ Post env σ H (env.set i (.own d1)) (L2.upd H p o) := by
  have hl : i < env.length := (List.getElem?_eq_some_iff.mp hi).1
  have hO : OwnS env σ p := ⟨i, ⟨d0, hi⟩, hp⟩
  have k : Kep (fun a => a = p) H (L2.upd H p o) := Kep.put rfl
  have dm : ∀ a u, H a = some u → ∃ o', L2.upd H p o a = some o' := fun a u h => by
    by_cases ha : a = p
    · rw [ha, upd_same]; exact ⟨_, rfl⟩
    · rw [upd_ne ha]; exact ⟨_, h⟩
  have P : Post env σ H (env.set i (.own d1)) (L2.upd H p o) := ⟨isOwn_set hi, k.mono fun a z => by rw [z]; exact hO, dm⟩
  have av : ∀ a, AvE B (env.set i (.own d1)) σ a ↔ AvE B env σ a := fun a => P.av a
  have nB : ¬ B p := by
    obtain ⟨q, e1, n, _⟩ := R.own i d0 hi
    rw [hp] at e1; cases e1
    exact n
  have own' : ∀ j q, IsOwn (env.set i (.own d1)) σ j q ↔ IsOwn env σ j q := fun j q => and_congr (isOwn_set hi j) Iff.rfl
  refine ⟨⟨by rw [List.length_set]; exact R.len, fun j d e => ?_, fun j d e => ?_, fun a b q h1 h2 => R.inj a b q ((own' a q).mp h1) ((own' b q).mp h2), fun q h => ?_, fun a u h n t => ?_, fun j q h => R.fo j q ((own' j q).mp h), fun q h => (own' _ _).mpr (R.io q h), fun a u h => let ⟨o', e⟩ := R.dom a u h; dm a o' e⟩, P⟩
  · have hj : i ≠ j := fun z => by
      subst z
      rw [List.getElem?_set_self hl] at e; cases e
    rw [List.getElem?_set_ne hj] at e
    obtain ⟨v, a, b⟩ := R.sh j d e
    exact ⟨v, a, b.keep (fun a z => (av a).mp z) (A := fun a => a = p) (fun a z => by rw [z]; exact .inr hO) k⟩
  · by_cases hj : i = j
    · subst hj
      rw [List.getElem?_set_self hl] at e
      cases e
      exact ⟨p, hp, nB, Own.keep ho (fun a z => (av a).mp z) (A := fun _ => False) (fun _ z => z.elim) (Kep.refl _ _) (fun z => z)⟩
    · rw [List.getElem?_set_ne hj] at e
      obtain ⟨q, a, n, b⟩ := R.own j d e
      refine ⟨q, a, n, b.keep (fun a z => (av a).mp z) (A := fun a => a = p) (fun a z => by rw [z]; exact .inr hO) k fun z => ?_⟩
      subst z
      exact hj (R.inj i j q ⟨⟨_, hi⟩, hp⟩ ⟨⟨_, e⟩, a⟩)
  · obtain ⟨u, hu⟩ := R.trk q h
    exact dm q u hu
  · have ne : a ≠ p := fun z => by
      subst z
      rcases R.fo i a ⟨⟨_, hi⟩, hp⟩ with ⟨q, hq, e⟩ | h0
      · exact n q hq e
      · rw [h] at h0; cases h0
    rw [upd_ne ne]
    exact R.fr a u h n t
end
end Q

set_option linter.all false
set_option maxRecDepth 100000
set_option maxHeartbeats 4000000
namespace Q
open PySem PySem.Spec PyProof.Rows L2
/-! ### methods that change their owner's object -/
inductive MR where
  | ok (d : D) (r : D) | stuck
def MGoal (c : DCtx) (Av : Addr → Prop) (H : Hp) (p : Addr) (Q : VK) : MR → Prop
  | .ok d r => ∀ v o, Own c.K c.mg Av (L2.upd H p o) p d → RD c.K c.mg Av (L2.upd H p o) v r → Q v (L2.upd H p o)
  | .stuck => False
def OpM (c : DCtx) (T : String) (r : V → List V → Hp → VK → Prop) (f : D → List D → MR) : Prop :=
  ∀ Av H p d vs ds Q, Av p → Own c.K c.mg Av H p d → RDs c.K c.mg Av H vs ds → MGoal c Av H p Q (f d ds) → r (.ref p) vs H Q
def mMeth (T : String) (i : Nat) (f : D → List D → MR) (ma : MA) : ME := fun env => match env[i]? with
  | some (.own d) => match T, d with
    | "list", .lst _ => (ma env).bind fun xs e => match frees xs, e[i]? with
      | some ds, some (.own d0) => match f d0 ds with
        | .ok d1 r => .ok (.sh r) (e.set i (.own d1))
        | .stuck => .stuck
      | _, _ => .stuck
    | _, _ => .stuck
  | _ => .stuck
def appendD : D → List D → MR
  | .lst ds, [d] => if ds.length < sizeLine then .ok (.lst (ds ++ [d])) .non else .stuck
  | _, _ => .stuck
def popAtD : D → List D → MR
  | .lst ds, [.int i] => if -(2 ^ 63) ≤ i ∧ i < 2 ^ 63 then match seqIndex? i ds.length with
    | some k => match ds[k]? with
      | some d => .ok (.lst (ds.eraseIdx k)) d
      | none => .stuck
    | none => .stuck else .stuck
  | _, _ => .stuck
def popD : D → List D → MR
  | .lst ds, [] => match ds[ds.length - 1]? with
    | some d => .ok (.lst ds.dropLast) d
    | none => .stuck
  | _, _ => .stuck
section
variable {c : DCtx} {B B' B1 : Addr → Prop} {env env' env1 env2 : DEnv} {σ : L2.St} {H H' H1 H2 : Hp} {W : WX}
theorem RDs.put {Av : Addr → Prop} {p : Addr} {o : HO} {vs : List V} {ds : List D} (h : RDs c.K c.mg Av H vs ds) (hp : Av p) : RDs c.K c.mg Av (L2.upd H p o) vs ds :=
  h.keep (fun _ z => z) (A := fun a => a = p) (fun a z => by rw [z]; exact hp) (Kep.put rfl)
theorem RDs.eraseIdx {Av : Addr → Prop} : ∀ {vs : List V} {ds : List D} (k : Nat), RDs c.K c.mg Av H vs ds → RDs c.K c.mg Av H (vs.eraseIdx k) (ds.eraseIdx k)
  | _, _, _, .nil => .nil
  | _, _, 0, .cons _ t => t
  | _, _, k + 1, .cons a t => .cons a (RDs.eraseIdx k t)
theorem RDs.set {Av : Addr → Prop} {v : V} {d : D} (h : RD c.K c.mg Av H v d) : ∀ {vs : List V} {ds : List D} (k : Nat), RDs c.K c.mg Av H vs ds → RDs c.K c.mg Av H (vs.set k v) (ds.set k d)
  | _, _, _, .nil => .nil
  | _, _, 0, .cons _ t => .cons h t
  | _, _, k + 1, .cons a t => .cons a (RDs.set h k t)
theorem RDs.dropLast {Av : Addr → Prop} : ∀ {vs : List V} {ds : List D}, RDs c.K c.mg Av H vs ds → RDs c.K c.mg Av H vs.dropLast ds.dropLast
  | _, _, .nil => .nil
  | _, _, .cons _ .nil => .nil
  | _, _, .cons a (.cons b t) => .cons a (RDs.dropLast (.cons b t))
theorem RD.put {Av : Addr → Prop} {p : Addr} {o : HO} {v : V} {d : D} (h : RD c.K c.mg Av H v d) (hp : Av p) : RD c.K c.mg Av (L2.upd H p o) v d :=
  h.keep (fun _ z => z) (A := fun a => a = p) (fun a z => by rw [z]; exact hp) (Kep.put rfl)
theorem opm_append : OpM c "list" rAppend appendD := by
  intro Av H p d vs ds Q hp ho hv g
  unfold appendD at g
  split at g
  · rename_i xs y
    by_cases hs : xs.length < sizeLine
    · rw [if_pos hs] at g
      obtain ⟨us, h1, h2⟩ := ho
      cases hv with
      | cons a b =>
        cases b
        refine ⟨p, us, _, rfl, rfl, h1, by rw [h2.length]; exact hs, g _ _ ⟨_, upd_same, ?_⟩ .non⟩
        exact (h2.append (.cons a .nil)).put hp
    · rw [if_neg hs] at g; exact g.elim
  · exact g.elim
theorem opm_popAt : OpM c "list" rPopAt popAtD := by
  intro Av H p d vs ds Q hp ho hv g
  unfold popAtD at g
  split at g
  · rename_i xs i
    by_cases hs : -(2 ^ 63) ≤ i ∧ i < 2 ^ 63
    · rw [if_pos hs] at g
      cases hk : seqIndex? i xs.length with
      | none => rw [hk] at g; exact g.elim
      | some k =>
        rw [hk] at g
        dsimp only at g
        cases hx : xs[k]? with
        | none => rw [hx] at g; exact g.elim
        | some d =>
          rw [hx] at g
          obtain ⟨us, h1, h2⟩ := ho
          obtain ⟨v, e1, e2⟩ := h2.get hx
          cases hv with
          | cons a b =>
            cases b; cases a
            exact ⟨p, us, i, k, v, rfl, rfl, h1, hs.1, hs.2, by rw [h2.length]; exact hk, e1, g _ _ ⟨_, upd_same, (h2.eraseIdx k).put hp⟩ (e2.put hp)⟩
    · rw [if_neg hs] at g; exact g.elim
  · exact g.elim
theorem opm_pop : OpM c "list" rPop popD := by
  intro Av H p d vs ds Q hp ho hv g
  unfold popD at g
  split at g
  · rename_i xs
    cases hx : xs[xs.length - 1]? with
    | none => rw [hx] at g; exact g.elim
    | some d =>
      rw [hx] at g
      obtain ⟨us, h1, h2⟩ := ho
      obtain ⟨v, e1, e2⟩ := h2.get hx
      cases hv
      exact ⟨p, us, v, rfl, rfl, h1, by rw [h2.length]; exact e1, g _ _ ⟨_, upd_same, h2.dropLast.put hp⟩ (e2.put hp)⟩
  · exact g.elim
theorem ref_meth {r : V → List V → Hp → VK → Prop} {f : D → List D → MR} {i : Nat} {ta : TA} {ma : MA} (ho : OpM c "list" r f) (ha : RefA c W ta ma) : Ref c W (tBM c.K "list" r (tVar i) ta) (mMeth "list" i f ma) := by
  intro B env σ H Q R h
  unfold mMeth at h
  cases ei : env[i]? with
  | none => rw [ei] at h; exact h.elim
  | some sl =>
    cases sl with
    | no => rw [ei] at h; exact h.elim
    | sh d => rw [ei] at h; exact h.elim
    | own d =>
      rw [ei] at h
      cases d with
      | lst ds0 =>
        obtain ⟨p, hp, nB, hO⟩ := R.own i _ ei
        refine ⟨.ref p, hp, .inl ⟨rfl, let ⟨vs, h1, _⟩ := hO; ⟨vs, .inl (.inl h1)⟩⟩, ?_⟩
        refine ha B env σ H _ R (Goal.nextA Post.refl (fun _ z => z) h fun xs e1 vs H1 R1 V1 P1 h1 => ?_)
        cases ef : frees xs with
        | none => rw [ef] at h1; exact h1.elim
        | some ds =>
          rw [ef] at h1
          cases e1i : e1[i]? with
          | none => rw [e1i] at h1; exact h1.elim
          | some sl =>
            cases sl with
            | no => rw [e1i] at h1; exact h1.elim
            | sh d => rw [e1i] at h1; exact h1.elim
            | own d0 =>
              rw [e1i] at h1
              dsimp only at h1
              cases hf : f d0 ds with
              | stuck => rw [hf] at h1; exact h1.elim
              | ok d1 r =>
                rw [hf] at h1
                have R2 := R1.weak (B' := B) (fun a z => addBs_sub a z)
                obtain ⟨q, hq, _, hO2⟩ := R2.own i d0 e1i
                rw [hp] at hq; cases hq
                have hav : AvE B e1 σ p := .inr ⟨i, ⟨d0, e1i⟩, hp⟩
                refine ho (AvE B e1 σ) H1 p d0 vs ds Q hav hO2 (V1.free (fun _ z => z) ef) ?_
                rw [hf]
                intro v o ho1 hr
                obtain ⟨R3, P3⟩ := R2.write e1i hp ho1
                exact h1 v _ R3 (RD.mono hr fun a z => (P3.av a).mp z) (P1.trans P3) trivial
      | _ => exact h.elim

/-! ### statements -/
inductive DFlow where
  | nx | rt (v : DVal) | bk | ct
abbrev MS := DEnv → DRes DFlow
/-- what a statement leaves as it was -/
structure PostS (env : DEnv) (σ : L2.St) (H : Hp) (env' : DEnv) (σ' : L2.St) (H' : Hp) : Prop where
  keep : Kep (OwnS env σ) H H'
  dom : ∀ a o, H a = some o → ∃ o', H' a = some o'
  own : ∀ p, OwnS env' σ' p → OwnS env σ p ∨ H p = none
def GoalS (c : DCtx) (W : WX) (B : Addr → Prop) (env : DEnv) (σ : L2.St) (H : Hp) (Dn : Ends) : DRes DFlow → Prop
  | .ok .nx env' => ∀ σ' H', REnv c B env' σ' H' → PostS env σ H env' σ' H' → Dn.nx σ' H'
  | .ok (.rt x) env' => ∀ v σ' H', REnv c (addB B x v) env' σ' H' → VR c B env' σ' H' x v → PostS env σ H env' σ' H' → Dn.rt v H'
  | .ok .bk env' => ∀ σ' H', REnv c B env' σ' H' → PostS env σ H env' σ' H' → Dn.bk σ' H'
  | .ok .ct env' => ∀ σ' H', REnv c B env' σ' H' → PostS env σ H env' σ' H' → Dn.ct σ' H'
  | .exc x env' => ∀ cls dx σ' H', REnv c B env' σ' H' → RX c (AvE B env' σ') H' x cls dx → PostS env σ H env' σ' H' → W cls dx σ' H'
  | .stuck => False
def RefS (c : DCtx) (W : WX) (ts : TS) (m : MS) : Prop := ∀ B env σ H Dn, REnv c B env σ H → GoalS c W B env σ H Dn (m env) → ts Dn σ H
theorem PostS.refl : PostS env σ H env σ H := ⟨Kep.refl _ _, fun a o h => ⟨o, h⟩, fun _ => .inl⟩
theorem PostS.of (P : Post env σ H env' H') : PostS env σ H env' σ H' := ⟨P.keep, P.dom, fun p h => .inl ((P.ownS p).mp h)⟩
theorem PostS.trans {σ1 σ2 : L2.St} (P : PostS env σ H env1 σ1 H1) (P2 : PostS env1 σ1 H1 env2 σ2 H2) : PostS env σ H env2 σ2 H2 := by
  have no : ∀ a, H1 a = none → H a = none := fun a h => by
    cases q : H a with
    | none => rfl
    | some o =>
      obtain ⟨o', e⟩ := P.dom a o q
      rw [h] at e; cases e
  refine ⟨fun a o h n t => P2.keep a o (P.keep a o h n t) (fun z => ?_) t, fun a o h => let ⟨o', e⟩ := P.dom a o h; P2.dom a o' e, fun p h => ?_⟩
  · rcases P.own a z with z | z
    · exact n z
    · rw [h] at z; cases z
  · rcases P2.own p h with z | z
    · exact P.own p z
    · exact .inr (no p z)
/-- a step whose new owned ones are new against an elder heap -/
structure PostS2 (H0 : Hp) (env : DEnv) (σ : L2.St) (H : Hp) (env' : DEnv) (σ' : L2.St) (H' : Hp) : Prop where
  keep : Kep (OwnS env σ) H H'
  dom : ∀ a o, H a = some o → ∃ o', H' a = some o'
  own : ∀ p, OwnS env' σ' p → OwnS env σ p ∨ H0 p = none
theorem PostS.trans2 {σ1 σ2 : L2.St} (P : PostS env σ H env1 σ1 H1) (P2 : PostS2 H env1 σ1 H1 env2 σ2 H2) : PostS env σ H env2 σ2 H2 := by
  refine ⟨fun a o h n t => P2.keep a o (P.keep a o h n t) (fun z => ?_) t, fun a o h => let ⟨o', e⟩ := P.dom a o h; P2.dom a o' e, fun p h => ?_⟩
  · rcases P.own a z with z | z
    · exact n z
    · rw [h] at z; cases z
  · rcases P2.own p h with z | z
    · exact P.own p z
    · exact .inr z
theorem GoalS.back {Dn : Ends} {σ1 : L2.St} {r : DRes DFlow} (P : PostS env σ H env1 σ1 H1) (hB : ∀ a, B a → B1 a) (h : GoalS c W B env σ H Dn r) : GoalS c W B1 env1 σ1 H1 Dn r := by
  cases r with
  | stuck => exact h
  | exc x e => exact fun cls dx σ' H' R X P2 => h cls dx σ' H' (R.weak hB) (X.mono (AvE.mono hB)) (P.trans P2)
  | ok f e =>
    cases f with
    | nx => exact fun σ' H' R P2 => h σ' H' (R.weak hB) (P.trans P2)
    | bk => exact fun σ' H' R P2 => h σ' H' (R.weak hB) (P.trans P2)
    | ct => exact fun σ' H' R P2 => h σ' H' (R.weak hB) (P.trans P2)
    | rt x =>
      refine fun v σ' H' R V P2 => h v σ' H' (R.weak (addB_mono hB)) ?_ (P.trans P2)
      cases x with
      | sh d => exact RD.mono V (AvE.mono hB)
      | own i => exact V
      | new d =>
        obtain ⟨p, rfl, n, h0, o⟩ := V
        exact ⟨p, rfl, fun z => n (AvE.mono hB _ z), h0, Own.keep o (AvE.mono (addB_mono hB)) (A := fun _ => False) (fun _ z => z.elim) (Kep.refl _ _) (fun z => z)⟩
def mSeq (m n : MS) : MS := fun env => (m env).bind fun f e => match f with
  | .nx => n e
  | f => .ok f e
def mNx : MS := fun env => .ok .nx env
def mBk : MS := fun env => .ok .bk env
def mCt : MS := fun env => .ok .ct env
def mDrop (m : ME) : MS := fun env => (m env).bind fun _ e => .ok .nx e
def mRet (m : ME) : MS := fun env => (m env).bind fun x e => .ok (.rt x) e
def mRetN : MS := fun env => .ok (.rt (.sh .non)) env
def mIf (t : MT) (m n : MS) : MS := fun env => (t env).bind fun b e => match b with
  | true => m e
  | false => n e
def mStuck : MS := fun _ => .stuck
/-- x = e: ow: what is new becomes the slot's own -/
def setVal (ow : Bool) (i : Nat) (x : DVal) (e : DEnv) : Option DEnv := match x with
  | .sh d => some (e.set i (.sh d))
  | .new d => some (e.set i (if ow then .own d else .sh d))
  | .own _ => none
def mSet (ow : Bool) (i : Nat) (m : ME) : MS := fun env => (m env).bind fun x e => match setVal ow i x e with
  | some e' => .ok .nx e'
  | none => .stuck
/-- an owner lets go -/
def mFree (i : Nat) (m : MS) : MS := fun env => match env[i]? with
  | some (.own d) => m (env.set i (.sh d))
  | _ => .stuck
def mSetIx (i : Nat) (me mi : ME) : MS := fun env => (me env).bind fun x e1 => match e1[i]? with
  | some (.own _) => (mi e1).bind fun y e2 => match frees [x], y.view e2, e2[i]? with
    | some [d], some (.int k), some (.own (.lst ds)) => match ixN ds.length k with
      | some j => .ok .nx (e2.set i (.own (.lst (ds.set j d))))
      | none => .stuck
    | _, _, _ => .stuck
  | _ => .stuck
theorem refS_nx : RefS c W tNext mNx := fun B env σ H Dn R h => h σ H R PostS.refl
theorem refS_bk : RefS c W tBreak mBk := fun B env σ H Dn R h => h σ H R PostS.refl
theorem refS_ct : RefS c W tCont mCt := fun B env σ H Dn R h => h σ H R PostS.refl
theorem refS_stuck {ts : TS} : RefS c W ts mStuck := fun B env σ H Dn R h => h.elim
theorem refS_seq {t u : TS} {m n : MS} (h : RefS c W t m) (h' : RefS c W u n) : RefS c W (tSeq t u) (mSeq m n) := by
  intro B env σ H Dn R g
  refine h B env σ H _ R ?_
  have g' : GoalS c W B env σ H Dn ((m env).bind fun f e => match f with | .nx => n e | f => .ok f e) := g
  cases hm : m env with
  | stuck => rw [hm] at g'; exact g'
  | exc x e => rw [hm] at g'; exact g'
  | ok f e =>
    rw [hm] at g'
    cases f with
    | nx => exact fun σ' H' R' P' => h' B e σ' H' Dn R' (GoalS.back P' (fun _ z => z) g')
    | rt x => exact g'
    | bk => exact g'
    | ct => exact g'
/-- an expression ahead of a statement -/
theorem GoalS.next {Dn : Ends} {Q1 : VK} {r : DRes DVal} {k : DVal → DEnv → DRes DFlow} (P : Post env σ H env1 H1) (hB : ∀ a, B a → B1 a) (h : GoalS c W B env σ H Dn (r.bind k))
    (hk : ∀ x e v H2, REnv c (addB B1 x v) e σ H2 → VR c B1 e σ H2 x v → Post env1 σ H1 e H2 → NewAt H x v → GoalS c W B env σ H Dn (k x e) → Q1 v H2) : Goal c W B1 env1 σ H1 Q1 r := by
  cases r with
  | stuck => exact h
  | exc x e => exact fun cls dx H' R X P2 => h cls dx σ H' (R.weak hB) (X.mono (AvE.mono hB)) (PostS.of (P.trans P2))
  | ok x e => exact fun v H' R V P2 nw => hk x e v H' R V P2 (nw.back P.dom) h
theorem GoalS.nextT {Dn : Ends} {Q1 : Bool → Hp → Prop} {r : DRes Bool} {k : Bool → DEnv → DRes DFlow} (h : GoalS c W B env σ H Dn (r.bind k))
    (hk : ∀ b e H2, REnv c B e σ H2 → Post env σ H e H2 → GoalS c W B env σ H Dn (k b e) → Q1 b H2) : GoalT c W B env σ H Q1 r := by
  cases r with
  | stuck => exact h
  | exc x e => exact fun cls dx H' R X P => h cls dx σ H' R X (PostS.of P)
  | ok x e => exact fun H' R P => hk x e H' R P h
theorem refS_drop {te : TE} {m : ME} (h : Ref c W te m) : RefS c W (tDrop te) (mDrop m) := by
  intro B env σ H Dn R g
  exact h B env σ H _ R (GoalS.next Post.refl (fun _ z => z) g fun x e v H2 R2 V2 P2 _ g2 => g2 σ H2 (R2.weak addB_sub) (PostS.of P2))
theorem refS_ret {te : TE} {m : ME} (h : Ref c W te m) : RefS c W (tRet te) (mRet m) := by
  intro B env σ H Dn R g
  exact h B env σ H _ R (GoalS.next Post.refl (fun _ z => z) g fun x e v H2 R2 V2 P2 _ g2 => g2 v σ H2 R2 V2 (PostS.of P2))
theorem refS_retN : RefS c W tRetN mRetN := fun B env σ H Dn R g => g .non σ H R .non PostS.refl
theorem refS_if {t : TT} {u w : TS} {m : MT} {n k : MS} (h : RefT c W t m) (hn : RefS c W u n) (hk : RefS c W w k) : RefS c W (tIfS t u w) (mIf m n k) := by
  intro B env σ H Dn R g
  refine h B env σ H _ R (GoalS.nextT g fun b e H2 R2 P2 g2 => ?_)
  cases b with
  | true => exact iteT (hn B e σ H2 Dn R2 (GoalS.back (PostS.of P2) (fun _ z => z) g2))
  | false => exact iteF (hk B e σ H2 Dn R2 (GoalS.back (PostS.of P2) (fun _ z => z) g2))
theorem isOwn_setSh {i j : Nat} {d : D} {v : V} {p : Addr} (h : IsOwn (env.set i (DSlot.sh d)) (σ.set i (some v)) j p) : i ≠ j ∧ IsOwn env σ j p := by
  obtain ⟨⟨d', e⟩, h2⟩ := h
  by_cases hj : i = j
  · subst hj
    by_cases hl : i < env.length
    · rw [List.getElem?_set_self hl] at e; cases e
    · rw [List.getElem?_eq_none_iff.mpr (by rw [List.length_set]; omega)] at e; cases e
  · rw [List.getElem?_set_ne hj] at e h2
    exact ⟨hj, ⟨d', e⟩, h2⟩
theorem REnv.setSh (R : REnv c B env σ H) {i : Nat} {d : D} {v : V} (hv : RD c.K c.mg (AvE B env σ) H v d) (hio : ∀ q ∈ c.io, q.1 ≠ i) : REnv c B (env.set i (.sh d)) (σ.set i (some v)) H := by
  have av : ∀ a, AvE B (env.set i (.sh d)) (σ.set i (some v)) a → AvE B env σ a := fun a h => h.imp id fun ⟨j, z⟩ => ⟨j, (isOwn_setSh z).2⟩
  refine ⟨by rw [List.length_set, List.length_set]; exact R.len, fun j d' e => ?_, fun j d' e => ?_, fun a b q h1 h2 => R.inj a b q (isOwn_setSh h1).2 (isOwn_setSh h2).2, R.trk, R.fr, fun j q h => R.fo j q (isOwn_setSh h).2, fun q h => ?_, R.dom⟩
  · by_cases hj : i = j
    · subst hj
      have hl : i < env.length := by
        have := (List.getElem?_eq_some_iff.mp e).1
        rwa [List.length_set] at this
      rw [List.getElem?_set_self hl] at e
      cases e
      exact ⟨v, by rw [List.getElem?_set_self (by rw [R.len]; exact hl)], hv.mono av⟩
    · rw [List.getElem?_set_ne hj] at e
      obtain ⟨u, a, b⟩ := R.sh j d' e
      exact ⟨u, by rw [List.getElem?_set_ne hj]; exact a, b.mono av⟩
  · by_cases hj : i = j
    · subst hj
      have hl : i < env.length := by
        have := (List.getElem?_eq_some_iff.mp e).1
        rwa [List.length_set] at this
      rw [List.getElem?_set_self hl] at e
      cases e
    · rw [List.getElem?_set_ne hj] at e
      obtain ⟨p, a, n, b⟩ := R.own j d' e
      exact ⟨p, by rw [List.getElem?_set_ne hj]; exact a, n, b.keep av (A := fun _ => False) (fun _ z => z.elim) (Kep.refl _ _) (fun z => z)⟩
  · have hj := hio q h
    obtain ⟨⟨d', e⟩, e2⟩ := R.io q h
    exact ⟨⟨d', by rw [List.getElem?_set_ne (Ne.symm hj)]; exact e⟩, by rw [List.getElem?_set_ne (Ne.symm hj)]; exact e2⟩
theorem isOwn_setOwn {i j : Nat} {d : D} {p q : Addr} (h : IsOwn (env.set i (DSlot.own d)) (σ.set i (some (V.ref p))) j q) : (i = j ∧ q = p) ∨ (i ≠ j ∧ IsOwn env σ j q) := by
  obtain ⟨⟨d', e⟩, h2⟩ := h
  by_cases hj : i = j
  · subst hj
    have hl : i < σ.length := by
      have := (List.getElem?_eq_some_iff.mp h2).1
      rwa [List.length_set] at this
    rw [List.getElem?_set_self hl] at h2
    cases h2
    exact .inl ⟨rfl, rfl⟩
  · rw [List.getElem?_set_ne hj] at e h2
    exact .inr ⟨hj, ⟨d', e⟩, h2⟩
theorem REnv.setOwn {p : Addr} (R : REnv c (fun a => B a ∨ a = p) env σ H) {i : Nat} {d : D} (n : ¬ AvE B env σ p) (h0 : c.H0 p = none) (hv : Own c.K c.mg (AvE (fun a => B a ∨ a = p) env σ) H p d) (hio : ∀ q ∈ c.io, q.1 ≠ i) :
    REnv c B (env.set i (.own d)) (σ.set i (some (.ref p))) H := by
  have av : ∀ a, AvE B (env.set i (.own d)) (σ.set i (some (.ref p))) a → AvE (fun a => B a ∨ a = p) env σ a := fun a h => by
    rcases h with h | ⟨j, h⟩
    · exact .inl (.inl h)
    · rcases isOwn_setOwn h with ⟨_, rfl⟩ | ⟨_, h⟩
      · exact .inl (.inr rfl)
      · exact .inr ⟨j, h⟩
  refine ⟨by rw [List.length_set, List.length_set]; exact R.len, fun j d' e => ?_, fun j d' e => ?_, fun a b q h1 h2 => ?_, fun q h => R.trk q (.inl h), R.fr, fun j q h => ?_, fun q h => ?_, R.dom⟩
  · by_cases hj : i = j
    · subst hj
      have hl : i < env.length := by
        have := (List.getElem?_eq_some_iff.mp e).1
        rwa [List.length_set] at this
      rw [List.getElem?_set_self hl] at e
      cases e
    · rw [List.getElem?_set_ne hj] at e
      obtain ⟨u, a, b⟩ := R.sh j d' e
      exact ⟨u, by rw [List.getElem?_set_ne hj]; exact a, b.mono av⟩
  · by_cases hj : i = j
    · subst hj
      have hl : i < env.length := by
        have := (List.getElem?_eq_some_iff.mp e).1
        rwa [List.length_set] at this
      rw [List.getElem?_set_self hl] at e
      cases e
      exact ⟨p, by rw [List.getElem?_set_self (by rw [R.len]; exact hl)], fun z => n (.inl z), hv.keep av (A := fun _ => False) (fun _ z => z.elim) (Kep.refl _ _) (fun z => z)⟩
    · rw [List.getElem?_set_ne hj] at e
      obtain ⟨q, a, nq, b⟩ := R.own j d' e
      exact ⟨q, by rw [List.getElem?_set_ne hj]; exact a, fun z => nq (.inl z), b.keep av (A := fun _ => False) (fun _ z => z.elim) (Kep.refl _ _) (fun z => z)⟩
  · rcases isOwn_setOwn h1 with ⟨e1, z1⟩ | ⟨n1, h1⟩
    · rcases isOwn_setOwn h2 with ⟨e2, z2⟩ | ⟨n2, h2⟩
      · exact e1.symm.trans e2
      · exact (n (.inr ⟨b, by rw [← z1]; exact h2⟩)).elim
    · rcases isOwn_setOwn h2 with ⟨e2, z2⟩ | ⟨n2, h2⟩
      · exact (n (.inr ⟨a, by rw [← z2]; exact h1⟩)).elim
      · exact R.inj a b q h1 h2
  · rcases isOwn_setOwn h with ⟨_, rfl⟩ | ⟨_, h⟩
    · exact .inr h0
    · exact R.fo j q h
  · have hj := hio q h
    obtain ⟨⟨d', e⟩, e2⟩ := R.io q h
    exact ⟨⟨d', by rw [List.getElem?_set_ne (Ne.symm hj)]; exact e⟩, by rw [List.getElem?_set_ne (Ne.symm hj)]; exact e2⟩
theorem REnv.setVal {x : DVal} {v : V} {ow : Bool} {i : Nat} {e' : DEnv} (R : REnv c (addB B x v) env σ H) (V : VR c B env σ H x v) (hio : ∀ q ∈ c.io, q.1 ≠ i) (h : Q.setVal ow i x env = some e') : REnv c B e' (σ.set i (some v)) H := by
  cases x with
  | own j => cases h
  | sh d => cases h; exact R.setSh V hio
  | new d =>
    obtain ⟨p, rfl, n, h0, o⟩ := V
    cases ow with
    | true => cases h; exact REnv.setOwn R n h0 o hio
    | false => cases h; exact REnv.setSh (R.weak (fun a z => .inl z)) (Own.free o (AvE.mono fun a z => .inl z) n) hio
theorem PostS.setVal {x : DVal} {v : V} {ow : Bool} {i : Nat} {e' : DEnv} {H0 : Hp} (V : VR c B env σ H x v) (nw : NewAt H0 x v) (dm : ∀ a o, H0 a = some o → ∃ o', H a = some o') (h : Q.setVal ow i x env = some e') : PostS2 H0 env σ H e' (σ.set i (some v)) H := by
  cases x with
  | own j => cases h
  | sh d =>
    cases h
    exact ⟨Kep.refl _ _, fun a o h => ⟨o, h⟩, fun p ⟨j, z⟩ => .inl ⟨j, (isOwn_setSh z).2⟩⟩
  | new d =>
    obtain ⟨p, rfl, n, h0, o⟩ := V
    cases ow with
    | true =>
      cases h
      exact ⟨Kep.refl _ _, fun a o h => ⟨o, h⟩, fun q ⟨j, z⟩ => by
        rcases isOwn_setOwn z with ⟨_, rfl⟩ | ⟨_, z⟩
        · exact .inr nw
        · exact .inl ⟨j, z⟩⟩
    | false => cases h; exact ⟨Kep.refl _ _, fun a o h => ⟨o, h⟩, fun p ⟨j, z⟩ => .inl ⟨j, (isOwn_setSh z).2⟩⟩
theorem refS_set {te : TE} {m : ME} {ow : Bool} {i : Nat} (h : Ref c W te m) (hio : ∀ q ∈ c.io, q.1 ≠ i) : RefS c W (tAsg te (gName i)) (mSet ow i m) := by
  intro B env σ H Dn R g
  refine h B env σ H _ R (GoalS.next Post.refl (fun _ z => z) g fun x e v H2 R2 V2 P2 nw g2 => ?_)
  cases hs : Q.setVal ow i x e with
  | none => rw [hs] at g2; exact g2.elim
  | some e' =>
    rw [hs] at g2
    exact g2 _ H2 (R2.setVal V2 hio hs) ((PostS.of P2).trans2 (PostS.setVal V2 nw P2.dom hs))
theorem set_get_self {α : Type} {l : List α} {i : Nat} {x : α} (h : l[i]? = some x) : l.set i x = l := by
  apply List.ext_getElem?
  intro j
  by_cases hj : i = j
  · subst hj
    rw [List.getElem?_set_self (List.getElem?_eq_some_iff.mp h).1, h]
  · rw [List.getElem?_set_ne hj]
theorem REnv.letGo (R : REnv c B env σ H) {i : Nat} {d : D} (hi : env[i]? = some (DSlot.own d)) (hio : ∀ q ∈ c.io, q.1 ≠ i) : REnv c B (env.set i (.sh d)) σ H := by
  obtain ⟨p, hp, nB, ho⟩ := R.own i d hi
  have hl : i < env.length := (List.getElem?_eq_some_iff.mp hi).1
  have own' : ∀ j q, IsOwn (env.set i (.sh d)) σ j q → i ≠ j ∧ IsOwn env σ j q := fun j q ⟨⟨d', e⟩, h2⟩ => by
    by_cases hj : i = j
    · subst hj
      rw [List.getElem?_set_self hl] at e; cases e
    · rw [List.getElem?_set_ne hj] at e
      exact ⟨hj, ⟨d', e⟩, h2⟩
  have av : ∀ a, AvE B (env.set i (.sh d)) σ a → AvE B env σ a := fun a h => h.imp id fun ⟨j, z⟩ => ⟨j, (own' j a z).2⟩
  have np : ¬ AvE B (env.set i (.sh d)) σ p := fun h => by
    rcases h with h | ⟨j, h⟩
    · exact nB h
    · obtain ⟨hj, h⟩ := own' j p h
      exact hj (R.inj i j p ⟨⟨d, hi⟩, hp⟩ h)
  refine ⟨by rw [List.length_set]; exact R.len, fun j d' e => ?_, fun j d' e => ?_, fun a b q h1 h2 => R.inj a b q (own' a q h1).2 (own' b q h2).2, R.trk, R.fr, fun j q h => R.fo j q (own' j q h).2, fun q h => ?_, R.dom⟩
  · by_cases hj : i = j
    · subst hj
      rw [List.getElem?_set_self hl] at e
      cases e
      exact ⟨.ref p, hp, Own.free ho av np⟩
    · rw [List.getElem?_set_ne hj] at e
      obtain ⟨u, a, b⟩ := R.sh j d' e
      exact ⟨u, a, b.mono av⟩
  · by_cases hj : i = j
    · subst hj
      rw [List.getElem?_set_self hl] at e; cases e
    · rw [List.getElem?_set_ne hj] at e
      obtain ⟨q, a, n, b⟩ := R.own j d' e
      exact ⟨q, a, n, b.keep av (A := fun _ => False) (fun _ z => z.elim) (Kep.refl _ _) (fun z => z)⟩
  · have hj := hio q h
    obtain ⟨⟨d', e⟩, e2⟩ := R.io q h
    exact ⟨⟨d', by rw [List.getElem?_set_ne (Ne.symm hj)]; exact e⟩, e2⟩
theorem refS_free {ts : TS} {m : MS} {i : Nat} (h : RefS c W ts m) (hio : ∀ q ∈ c.io, q.1 ≠ i) : RefS c W ts (mFree i m) := by
  intro B env σ H Dn R g
  unfold mFree at g
  split at g
  · rename_i d e
    have hl : i < env.length := (List.getElem?_eq_some_iff.mp e).1
    refine h B _ σ H Dn (R.letGo e hio) (GoalS.back ⟨Kep.refl _ _, fun a o h => ⟨o, h⟩, fun p ⟨j, ⟨d', e1⟩, e2⟩ => .inl ⟨j, ⟨d', ?_⟩, e2⟩⟩ (fun _ z => z) g)
    by_cases hj : i = j
    · subst hj
      rw [List.getElem?_set_self hl] at e1; cases e1
    · rw [List.getElem?_set_ne hj] at e1
      exact e1
  · exact g.elim
theorem refS_setIx {te ti : TE} {me mi : ME} {i : Nat} (h : Ref c W te me) (h' : Ref c W ti mi) : RefS c W (tAsg te (gSub (tVar i) ti rSetL)) (mSetIx i me mi) := by
  intro B env σ H Dn R g
  refine h B env σ H _ R (GoalS.next Post.refl (fun _ z => z) g fun x e1 v H1 R1 V1 P1 _ g1 => ?_)
  cases ei : e1[i]? with
  | none => rw [ei] at g1; exact g1.elim
  | some sl =>
    cases sl with
    | no => rw [ei] at g1; exact g1.elim
    | sh d => rw [ei] at g1; exact g1.elim
    | own d0 =>
      rw [ei] at g1
      obtain ⟨p, hp, _, _⟩ := R1.own i d0 ei
      refine ⟨.ref p, hp, ?_⟩
      refine h' _ e1 σ H1 _ R1 (GoalS.next P1 addB_sub g1 fun y e2 u H2 R2 V2 P2 _ g2 => ?_)
      have V1' := V1.step P2
      cases ef : frees [x] with
      | none => rw [ef] at g2; exact g2.elim
      | some l =>
        cases l with
        | nil => rw [ef] at g2; exact g2.elim
        | cons d l =>
          cases l with
          | cons _ _ => rw [ef] at g2; exact g2.elim
          | nil =>
            rw [ef] at g2
            cases ev : y.view e2 with
            | none => rw [ev] at g2; exact g2.elim
            | some k =>
              cases k with
              | int k =>
                rw [ev] at g2
                cases e2i : e2[i]? with
                | none => rw [e2i] at g2; exact g2.elim
                | some sl =>
                  cases sl with
                  | no => rw [e2i] at g2; exact g2.elim
                  | sh d => rw [e2i] at g2; exact g2.elim
                  | own d0 =>
                    cases d0 with
                    | lst ds =>
                      rw [e2i] at g2
                      dsimp only at g2
                      cases hx : ixN ds.length k with
                      | none => rw [hx] at g2; exact g2.elim
                      | some j =>
                        rw [hx] at g2
                        have R3 := R2.weak (B' := B) (fun a z => addB_sub a (addB_sub a z))
                        obtain ⟨q, hq, _, ho⟩ := R3.own i _ e2i
                        rw [hp] at hq; cases hq
                        obtain ⟨vs, h1, h2⟩ := ho
                        have hav : AvE B e2 σ p := .inr ⟨i, ⟨_, e2i⟩, hp⟩
                        have hu : u = .int k := by
                          have ht := V2.top R2 addB_sub ev
                          cases ht
                          rfl
                        subst hu
                        refine ⟨p, vs, k, j, rfl, rfl, h1, by rw [h2.length]; exact hx, ?_⟩
                        have hv := VR.free V1' ef (Bt := B) (fun _ z => z)
                        obtain ⟨R4, P4⟩ := R3.write (d1 := .lst (ds.set j d)) e2i hp ⟨_, upd_same, (RDs.set hv j h2).put hav⟩
                        exact g2 σ _ R4 (PostS.of ((P1.trans P2).trans P4))
                    | _ => rw [e2i] at g2; exact g2.elim
              | _ => rw [ev] at g2; exact g2.elim
end
end Q

set_option linter.all false
set_option maxRecDepth 100000
set_option maxHeartbeats 4000000
namespace Q
open PySem PySem.Spec PyProof.Rows L2
/-! ### functions, where no repr is under way -/
structure FnG (P : Program) (w : World) (K : PySem.W.Frag) (mg : Str → Option Value) (base : Heap) (k : Nat) (f : Addr) (fd : FuncData) (ps : List Str) (sp : Sp) : Prop where
  len : ∀ vs H Q E, sp vs H Q E → vs.length = ps.length
  run : ∀ (A : Around) (out : List PySem.Env) (s : Shared) (H : Hp) (ar : Args) (us : List Value) (vs : List V) (Q : VK) (E : XK), Room k A → A.guards = some [] → Env0 P w K mg base A out s H →
    BindsTo s fd ar (ps.zip us) → Vals vs us → sp vs H Q E → codeAny (model P w) A (.call (.ref f) ar) (CR (L2.CX P w) out P w H s Q E) s
theorem FnG.mono {P : Program} {w : World} {K : PySem.W.Frag} {mg : Str → Option Value} {base : Heap} {j k : Nat} {f : Addr} {fd : FuncData} {ps : List Str} {sp : Sp} (F : FnG P w K mg base j f fd ps sp) (h : j ≤ k) : FnG P w K mg base k f fd ps sp :=
  ⟨F.len, fun A out s H ar us vs Q E hr => F.run A out s H ar us vs Q E (hr.mono h)⟩
/-- what a def's body is to show -/
theorem fnG_of {P : Program} {w : World} {K : PySem.W.Frag} {mg : Str → Option Value} {base : Heap} {x qual : Str} {st : Stmt} {f : Addr} {fd : FuncData} {N ps : List Str} {k : Nat} {sp : Sp} (F : Fun K x qual st f fd) (S : FnScope N ps (defScope st))
    (len : ∀ vs H Q E, sp vs H Q E → vs.length = ps.length)
    (hb : ∀ (cdv : Value) (A : Around) (out : List PySem.Env) (s : Shared) (H : Hp) (vs : List V) (Q : VK) (E : XK), Room k (A.deeper (envOfC qual (defScope st) s.heap.objs.size f cdv)) → (A.deeper (envOfC qual (defScope st) s.heap.objs.size f cdv)).guards = some [] → sp vs H Q E →
      ∃ t, PSs (cxOf (L2.CX P w) P w K mg base N qual (defScope st) f cdv A out s H E) (defBody st) t ∧ t { nx := fun _ H' => Q .non H', rt := Q } (start N vs) H) : FnG P w K mg base (k + 1) f fd ps sp := by
  obtain ⟨oc, od, kV, doc, pm, an, cdv, ct, osl, hfd, look, hcode⟩ := F.ex
  subst hfd
  refine ⟨len, fun A out s H ar us vs Q E room gu e0 bnd rv hsp => ?_⟩
  have hlen := len vs H Q E hsp
  have KX : K.In s.heap := e0.mod.kin.keeps fun b o e => (e0.bs b o e).1
  have lim : s.heap.NoLimit := e0.mod.nolimit.keeps fun b o e => (e0.bs b o e).1
  have kinds : ∀ y ∈ ps.zip us, (defScope st).names.lookup y.1 = some .local ∨ ((defScope st).names.lookup y.1 = some .cell ∧ ((cellsFrom (s.heap.objs.size + 1) (defScope st).names []).lookup y.1).isSome = true) := fun y hy => by
    obtain ⟨n, v⟩ := y
    rcases S.par n (List.of_mem_zip hy).1 with q | q
    · exact Or.inl q
    · exact Or.inr ⟨q, PySem.W.cellsFrom_some _ _ _ (.inl q)⟩
  refine codeAny_call_function room.depth (KX f _ look) rfl S.co S.gen rfl (PySem.W.codeRec_of KX hcode) (bnd _ _ _ _ ?_)
  refine wpAny_newFunctionEnv_cells S.kind kinds fun env he s1 x => ?_
  cases he
  refine ⟨lim.keeps x.toInCall.keep, codeAny_func ?_⟩
  obtain ⟨t, ht, hq⟩ := hb cdv A out s H vs Q E (room.deeper _) gu hsp
  have I : Inv (cxOf (L2.CX P w) P w K mg base N qual (defScope st) f cdv A out s H E) [] (start N vs) H s1 := inv_start S room.hd e0 hlen rv x
  refine wpAny_mono (ht.run [] s1 (start N vs) H _ I hq) (fun fl s' hs => ?_) (fun e s' hs => hs)
  cases fl with
  | ret u => exact let ⟨v, _, H', J, r, q⟩ := hs; ⟨v, H', J.os, J.bare, J.base, J.hok, r, q⟩
  | next => exact let ⟨_, H', J, q⟩ := hs; ⟨V.non, H', J.os, J.bare, J.base, J.hok, rfl, q⟩
  | brk => exact let ⟨_, _, _, q⟩ := hs; q.elim
  | cont => exact let ⟨_, _, _, q⟩ := hs; q.elim
section
variable {X : Cx} {k : Nat} {f : Addr} {fd : FuncData} {ps : List Str} {sp : Sp} {W : WX}
/-- a callee is called where X stands -/
theorem FnG.call (F : FnG X.prog X.w X.K X.mg X.base k f fd ps sp) (hr : Room k X.A) (hg : X.A.guards = some []) (hb : Binds X.K fd ps []) (tk : Takes X W) {pins : List (Addr × Obj)} {σ : L2.St} {H : Hp} {s : Shared} {Q : VK} {us : List Value} {vs : List V}
    (I : Inv X pins σ H s) (r : Vals vs us) (h : sp vs H Q (fun c d H' => W c d σ H')) : wpAny (model X.prog X.w) X.A (call (.ref f) us) (EP X pins σ Q) X.xe s := by
  have hl : us.length = ps.length := by rw [← r.length]; exact F.len _ _ _ _ h
  have b := hb s us I.kIn (by rw [List.append_nil]; exact hl)
  rw [List.append_nil] at b
  refine wpAny_call (codeAny_mono (F.run X.A X.stack s H ⟨us, []⟩ us vs Q _ hr hg I.env0 b r h) fun res s' hq => ?_)
  cases res with
  | error e => exact tk e s' (XE.of_call I (fun _ _ _ z => z) hq)
  | ok fl =>
    cases fl with
    | ret u => exact I.after hq
    | next => exact hq.elim
    | brk => exact hq.elim
    | cont => exact hq.elim
def tCallG (sp : Sp) (W : WX) (t : TA) : TE := fun σ H Q => t σ H fun vs H1 => sp vs H1 Q (fun c d H' => W c d σ H')
theorem pe_callG {x : Str} {p pos : Pos} {e : Expr} {es : List Expr} {t : TA} (F : FnG X.prog X.w X.K X.mg X.base k f fd ps sp) (hr : Room k X.A) (hgu : X.A.guards = some []) (hg : Gl X x) (hm : X.mg x = some (.ref f)) (hk : PySem.W.keepIn X.K (.ref f) = true) (hb : Binds X.K fd ps []) (tk : Takes X W)
    (ha : PA X (e :: es) t) (hdb : (x == ("__debug__" : Str)) = false := by decide) (he : starEach (e :: es) X.env = (false, eval e X.env) :: starEach es X.env := by rfl) (hpl : (backTo pos (starEach es X.env)).any (·.1) = false := by rfl) :
    PE X (.Call (.Name x p) (e :: es) [] pos) (tCallG sp W t) :=
  ⟨fun pins s σ H Q I h => wpAny_Call_Name_kw (ld_glob I hg hm (PySem.W.callWith_K (h₀ := X.base) I.ok.mod.kin hk (thn (ha.run pos pins s σ H _ I h) fun us s1 ⟨vs, H1, I1, r, q⟩ => ⟨I1.kIn, F.call hr hgu hb tk I1 r q⟩) he hpl) hdb)⟩
theorem pe_callG0 {x : Str} {p pos : Pos} (F : FnG X.prog X.w X.K X.mg X.base k f fd ps sp) (hr : Room k X.A) (hgu : X.A.guards = some []) (hg : Gl X x) (hm : X.mg x = some (.ref f)) (hk : PySem.W.keepIn X.K (.ref f) = true) (hb : Binds X.K fd ps []) (tk : Takes X W)
    (hdb : (x == ("__debug__" : Str)) = false := by decide) : PE X (.Call (.Name x p) [] [] pos) (tCallG sp W tNil) :=
  ⟨fun pins s σ H Q I h => wpAny_Call_Name_kw (ld_glob I hg hm (PySem.W.callWith_K0 I.kIn hk (F.call (us := []) hr hgu hb tk I .nil h)) hdb)⟩
end

/-! ### what a def promises, on data -/
inductive FRes where
  | ok (fresh : Bool) (r : D) (out : D) | exc (x : DExc) (out : D) | stuck
/-- the address that is handed in to be changed -/
def IoA (io : Option Nat) (vs : List V) (p : Addr) : Prop := ∃ i, io = some i ∧ vs[i]? = some (V.ref p)
def AvI (Z : Addr → Prop) (io : Option Nat) (vs : List V) (p : Addr) : Prop := Z p ∨ IoA io vs p
structure FPost (K : PySem.W.Frag) (mg : Str → Option Value) (Av : Addr → Prop) (io : Option Nat) (vs : List V) (H H' : Hp) (out : D) : Prop where
  keep : Kep (IoA io vs) H H'
  dom : ∀ a o, H a = some o → ∃ o', H' a = some o'
  out : ∀ p, IoA io vs p → Own K mg Av H' p out
def FGoal (K : PySem.W.Frag) (mg : Str → Option Value) (Z : Addr → Prop) (io : Option Nat) (vs : List V) (H : Hp) (Q : VK) (E : XK) : FRes → Prop
  | .ok false r out => ∀ v H', RD K mg (AvI Z io vs) H' v r → FPost K mg (AvI Z io vs) io vs H H' out → Q v H'
  | .ok true r out => ∀ p H', H p = none → Own K mg (fun a => AvI Z io vs a ∨ a = p) H' p r → FPost K mg (fun a => AvI Z io vs a ∨ a = p) io vs H H' out → Q (.ref p) H'
  | .exc x out => ∀ cls dx H', RX ⟨K, mg, H, []⟩ (AvI Z io vs) H' x cls dx → FPost K mg (AvI Z io vs) io vs H H' out → E cls dx H'
  | .stuck => False
structure FArgs (K : PySem.W.Frag) (mg : Str → Option Value) (Z : Addr → Prop) (io : Option Nat) (vs : List V) (ds : List D) (H : Hp) : Prop where
  len : vs.length = ds.length
  trk : ∀ a, Z a → ∃ o, H a = some o
  sh : ∀ i d, io ≠ some i → ds[i]? = some d → ∃ v, vs[i]? = some v ∧ RD K mg (AvI Z io vs) H v d
  own : ∀ i, io = some i → ∃ d p, ds[i]? = some d ∧ vs[i]? = some (V.ref p) ∧ ¬ Z p ∧ Own K mg (AvI Z io vs) H p d
def spD (K : PySem.W.Frag) (mg : Str → Option Value) (io : Option Nat) (n : Nat) (F : List D → FRes) : Sp := fun vs H Q E => ∃ ds Z, ds.length = n ∧ FArgs K mg Z io vs ds H ∧ FGoal K mg Z io vs H Q E (F ds)

/-! ### a body run on data -/
def startD (io : Option Nat) (n : Nat) (ds : List D) : DEnv := (ds.mapIdx fun i d => if io = some i then DSlot.own d else DSlot.sh d) ++ List.replicate (n - ds.length) DSlot.no
def outD (io : Option Nat) (e : DEnv) : D := match io with
  | none => .non
  | some i => match e[i]? with
    | some (.own d) => d
    | _ => .non
/-- the owned local that is handed back is let go -/
def endD (io : Option Nat) : DRes DFlow → FRes
  | .ok .nx e => .ok false .non (outD io e)
  | .ok (.rt (.sh d)) e => .ok false d (outD io e)
  | .ok (.rt (.new d)) e => .ok true d (outD io e)
  | .ok (.rt (.own j)) e => if io = some j then .stuck else match e[j]? with
    | some (.own d) => .ok true d (outD io e)
    | _ => .stuck
  | .exc x e => .exc x (outD io e)
  | _ => .stuck
def runD (io : Option Nat) (n : Nat) (m : MS) (ds : List D) : FRes := endD io (m (startD io n ds))
end Q

set_option linter.all false
set_option maxRecDepth 100000
set_option maxHeartbeats 4000000
namespace Q
open PySem PySem.Spec PyProof.Rows L2
structure DSs (X : Cx) (c : DCtx) (W : WX) (sts : List Stmt) (m : MS) : Prop where
  ex : ∃ ts, PSs X sts ts ∧ RefS c W ts m
structure DS (X : Cx) (c : DCtx) (W : WX) (st : Stmt) (m : MS) : Prop where
  ex : ∃ ts, PS X st ts ∧ RefS c W ts m
structure DE (X : Cx) (c : DCtx) (W : WX) (e : Expr) (m : ME) : Prop where
  ex : ∃ te, PE X e te ∧ Ref c W te m
structure DT (X : Cx) (c : DCtx) (W : WX) (e : Expr) (m : MT) : Prop where
  ex : ∃ tt, PT X e tt ∧ RefT c W tt m
structure DW (X : Cx) (c : DCtx) (W : WX) (e : Expr) (m : MT) : Prop where
  ex : ∃ tt, PW X e tt ∧ RefT c W tt m
structure DA (X : Cx) (c : DCtx) (W : WX) (es : List Expr) (m : MA) : Prop where
  ex : ∃ ta, PA X es ta ∧ RefA c W ta m

theorem startD_get {io : Option Nat} {n : Nat} {ds : List D} {i : Nat} {x : DSlot} (h : (startD io n ds)[i]? = some x) (hx : x ≠ .no) : ∃ d, ds[i]? = some d ∧ x = if io = some i then DSlot.own d else DSlot.sh d := by
  unfold startD at h
  by_cases hi : i < ds.length
  · rw [List.getElem?_append_left (by simpa using hi), List.getElem?_mapIdx] at h
    cases e : ds[i]? with
    | none => rw [e] at h; cases h
    | some d => rw [e] at h; exact ⟨d, rfl, by simpa using h.symm⟩
  · rw [List.getElem?_append_right (by simpa using hi)] at h
    have := List.mem_of_getElem? h
    rw [List.mem_replicate] at this
    exact (hx this.2).elim
theorem startD_at {io : Option Nat} {n : Nat} {ds : List D} {i : Nat} {d : D} (h : ds[i]? = some d) : (startD io n ds)[i]? = some (if io = some i then DSlot.own d else DSlot.sh d) := by
  have hi : i < ds.length := (List.getElem?_eq_some_iff.mp h).1
  unfold startD
  rw [List.getElem?_append_left (by simpa using hi), List.getElem?_mapIdx, h]
  rfl
theorem start_at {N : List Str} {vs : List V} {i : Nat} {v : V} (h : vs[i]? = some v) : (start N vs)[i]? = some (some v) := by
  have hi : i < vs.length := (List.getElem?_eq_some_iff.mp h).1
  show (vs.map some ++ List.replicate (N.length - vs.length) none)[i]? = _
  rw [List.getElem?_append_left (by simpa using hi), List.getElem?_map, h]
  rfl
/-- the slots handed in to be changed, with their addresses -/
def ioL (io : Option Nat) (vs : List V) : List (Nat × Addr) := match io with
  | none => []
  | some i => match vs[i]? with
    | some (V.ref p) => [(i, p)]
    | _ => []
theorem mem_ioL {io : Option Nat} {vs : List V} {q : Nat × Addr} : q ∈ ioL io vs ↔ io = some q.1 ∧ vs[q.1]? = some (V.ref q.2) := by
  obtain ⟨i, p⟩ := q
  cases io with
  | none => simp [ioL]
  | some j =>
    show (i, p) ∈ (match vs[j]? with | some (V.ref p) => [(j, p)] | _ => []) ↔ _
    constructor
    · intro h
      split at h
      · rename_i a e
        cases List.mem_singleton.mp h
        exact ⟨rfl, e⟩
      · cases h
    · rintro ⟨e1, e2⟩
      have e1' : j = i := Option.some.inj e1
      subst e1'
      have e2' : vs[j]? = some (V.ref p) := e2
      rw [e2']
      exact List.mem_singleton.mpr rfl
theorem ioA_iff {io : Option Nat} {vs : List V} {p : Addr} : IoA io vs p ↔ ∃ q ∈ ioL io vs, q.2 = p := by
  constructor
  · rintro ⟨i, e1, e2⟩
    exact ⟨(i, p), mem_ioL.mpr ⟨e1, e2⟩, rfl⟩
  · rintro ⟨q, h, rfl⟩
    obtain ⟨e1, e2⟩ := mem_ioL.mp h
    exact ⟨q.1, e1, e2⟩
section
variable {K : PySem.W.Frag} {mg : Str → Option Value} {io : Option Nat} {vs : List V} {ds : List D} {H H' : Hp} {Z : Addr → Prop} {N : List Str} {Q : VK} {E : XK}
theorem own_start {n : Nat} (G : FArgs K mg Z io vs ds H) {i : Nat} {p : Addr} : IsOwn (startD io n ds) (start N vs) i p ↔ (io = some i ∧ vs[i]? = some (V.ref p)) := by
  constructor
  · rintro ⟨⟨d, e1⟩, e2⟩
    obtain ⟨d', h1, h2⟩ := startD_get e1 (fun z => by cases z)
    by_cases hi : io = some i
    · refine ⟨hi, ?_⟩
      obtain ⟨d0, p0, h3, h4, _⟩ := G.own i hi
      rw [start_at h4] at e2
      cases e2
      exact h4
    · rw [if_neg hi] at h2; cases h2
  · rintro ⟨hi, e⟩
    obtain ⟨d0, p0, h3, h4, _⟩ := G.own i hi
    refine ⟨⟨d0, ?_⟩, start_at e⟩
    rw [startD_at h3, if_pos hi]
theorem env_start (G : FArgs K mg Z io vs ds H) : REnv ⟨K, mg, H, ioL io vs⟩ Z (startD io N.length ds) (start N vs) H := by
  have av : ∀ a, AvE Z (startD io N.length ds) (start N vs) a → AvI Z io vs a := fun a h => h.imp id fun ⟨i, z⟩ => ⟨i, (own_start G).mp z⟩
  refine ⟨?_, fun i d e => ?_, fun i d e => ?_, fun i j p h1 h2 => ?_, G.trk, fun a o h _ _ => h, fun i p h => ?_, fun q h => (own_start G).mpr (mem_ioL.mp h), fun a o h => ⟨o, h⟩⟩
  · show (vs.map some ++ List.replicate (N.length - vs.length) none).length = _
    unfold startD
    simp [G.len]
  · obtain ⟨d', h1, h2⟩ := startD_get e (fun z => by cases z)
    by_cases hi : io = some i
    · rw [if_pos hi] at h2; cases h2
    · rw [if_neg hi] at h2
      cases h2
      obtain ⟨v, h3, h4⟩ := G.sh i d hi h1
      exact ⟨v, start_at h3, h4.mono av⟩
  · obtain ⟨d', h1, h2⟩ := startD_get e (fun z => by cases z)
    by_cases hi : io = some i
    · rw [if_pos hi] at h2
      cases h2
      obtain ⟨d0, p, h3, h4, h5, h6⟩ := G.own i hi
      rw [h1] at h3; cases h3
      exact ⟨p, start_at h4, h5, h6.keep av (A := fun _ => False) (fun _ z => z.elim) (Kep.refl _ _) (fun z => z)⟩
    · rw [if_neg hi] at h2; cases h2
  · have e1 := ((own_start G).mp h1).1
    have e2 := ((own_start G).mp h2).1
    rw [e1] at e2; cases e2
    rfl
  · exact .inl ⟨(i, p), mem_ioL.mpr ((own_start G).mp h), rfl⟩
theorem post_end {e : DEnv} {σ : L2.St} {B : Addr → Prop} (R : REnv ⟨K, mg, H, ioL io vs⟩ B e σ H') (hB : ∀ a, Z a → B a) {Av : Addr → Prop} (hA : ∀ a, Av a → AvE B e σ a) : FPost K mg Av io vs H H' (outD io e) := by
  refine ⟨fun a o h n t => R.fr a o h (fun q hq z => n (ioA_iff.mpr ⟨q, hq, z⟩)) t, R.dom, fun p hp => ?_⟩
  obtain ⟨i, e1, e2⟩ := hp
  obtain ⟨⟨d, h1⟩, h2⟩ := R.io (i, p) (mem_ioL.mpr ⟨e1, e2⟩)
  obtain ⟨q, h3, _, h4⟩ := R.own i d h1
  have h2' : σ[i]? = some (some (V.ref p)) := h2
  rw [h2'] at h3; cases h3
  subst e1
  have eo : outD (some i) e = d := by
    have h1' : e[i]? = some (DSlot.own d) := h1
    show (match e[i]? with | some (DSlot.own d) => d | _ => D.non) = d
    rw [h1']
  rw [eo]
  exact h4.keep hA (A := fun _ => False) (fun _ z => z.elim) (Kep.refl _ _) (fun z => z)
theorem avI_le {e : DEnv} {σ : L2.St} {B : Addr → Prop} (R : REnv ⟨K, mg, H, ioL io vs⟩ B e σ H') (hB : ∀ a, Z a → B a) : ∀ a, AvI Z io vs a → AvE B e σ a := fun a h =>
  h.imp (hB a) fun h => let ⟨q, hq, z⟩ := ioA_iff.mp h; ⟨q.1, by have := R.io q hq; rw [z] at this; exact this⟩
/-- a def's end -/
theorem goal_end {r : DRes DFlow} (g : FGoal K mg Z io vs H Q E (endD io r)) : ∀ {env : DEnv} {σ : L2.St} {H1 : Hp}, GoalS ⟨K, mg, H, ioL io vs⟩ (fun cls d _ H' => E cls d H') Z env σ H1 { nx := fun _ H' => Q .non H', rt := Q } r := by
  intro env σ H1
  cases r with
  | stuck => exact g.elim
  | exc x e => exact fun cls dx σ' H' R X _ => g cls dx H' (X.mono (avI_le R fun _ z => z)) (post_end R (fun _ z => z) (avI_le R fun _ z => z))
  | ok f e =>
    cases f with
    | bk => exact g.elim
    | ct => exact g.elim
    | nx => exact fun σ' H' R _ => g .non H' .non (post_end R (fun _ z => z) (avI_le R fun _ z => z))
    | rt x =>
      cases x with
      | sh d => exact fun v σ' H' R V _ => g v H' (RD.mono V (avI_le R fun _ z => z)) (post_end R (fun _ z => z) (avI_le R fun _ z => z))
      | new d =>
        intro v σ' H' R V _
        obtain ⟨p, rfl, n, h0, o⟩ := V
        have le : ∀ a, (AvI Z io vs a ∨ a = p) → AvE (addB Z (.new d) (.ref p)) e σ' a := fun a h => h.elim (avI_le R (fun b z => addB_sub b z) a) (fun z => .inl (.inr z))
        exact g p H' h0 (Own.keep o le (A := fun _ => False) (fun _ z => z.elim) (Kep.refl _ _) (fun z => z)) (post_end R (fun b z => addB_sub b z) le)
      | own j =>
        intro v σ' H' R V _
        have g' : FGoal K mg Z io vs H Q E (if io = some j then .stuck else match e[j]? with | some (.own d) => .ok true d (outD io e) | _ => .stuck) := g
        by_cases hj : io = some j
        · rw [if_pos hj] at g'; exact g'.elim
        · rw [if_neg hj] at g'
          obtain ⟨⟨d, h1⟩, h2⟩ := V
          rw [h1] at g'
          obtain ⟨q, h3, h4, h5⟩ := REnv.own R j d h1
          rw [h2] at h3; cases h3
          have h0 : H q = none := by
            rcases REnv.fo R j q ⟨⟨d, h1⟩, h2⟩ with ⟨z, hz, ez⟩ | h0
            · have h6 := REnv.io R z hz
              rw [ez] at h6
              have h7 := REnv.inj R z.1 j q h6 ⟨⟨d, h1⟩, h2⟩
              have h8 := (mem_ioL.mp hz).1
              rw [h7] at h8
              exact (hj h8).elim
            · exact h0
          have le : ∀ a, (AvI Z io vs a ∨ a = q) → AvE Z e σ' a := fun a h => h.elim (avI_le R (fun b z => z) a) (fun z => .inr ⟨j, by rw [z]; exact ⟨⟨d, h1⟩, h2⟩⟩)
          exact g' q H' h0 (h5.keep le (A := fun _ => False) (fun _ z => z.elim) (Kep.refl _ _) (fun z => z)) (post_end R (fun b z => z) le)
end
theorem io_ne {io : Option Nat} {vs : List V} {i : Nat} (h : io ≠ some i) : ∀ q ∈ ioL io vs, q.1 ≠ i := fun q hq z => h (by rw [← z]; exact (mem_ioL.mp hq).1)
/-- THE RULE for a def: its body as a program on data, and what that program gives -/
theorem fnD {P : Program} {w : World} {K : PySem.W.Frag} {mg : Str → Option Value} {base : Heap} {x qual : Str} {st : Stmt} {f : Addr} {fd : FuncData} {N ps : List Str} {k n : Nat} {io : Option Nat} {m : MS} {Fs : List D → FRes} (F : Fun K x qual st f fd) (S : FnScope N ps (defScope st))
    (hn : ps.length = n)
    (hb : ∀ (cdv : Value) (A : Around) (out : List PySem.Env) (s : Shared) (H : Hp) (vs : List V) (E : XK), Room k (A.deeper (envOfC qual (defScope st) s.heap.objs.size f cdv)) → (A.deeper (envOfC qual (defScope st) s.heap.objs.size f cdv)).guards = some [] →
      DSs (cxOf (L2.CX P w) P w K mg base N qual (defScope st) f cdv A out s H E) ⟨K, mg, H, ioL io vs⟩ (fun cls d _ H' => E cls d H') (defBody st) m)
    (hs : ∀ ds, ds.length = n → Fs ds ≠ .stuck → runD io N.length m ds = Fs ds) : FnG P w K mg base (k + 1) f fd ps (spD K mg io n Fs) := by
  refine fnG_of F S (fun vs H Q E ⟨ds, Z, h1, h2, _⟩ => by rw [h2.len, h1, hn]) fun cdv A out s H vs Q E hr hg hsp => ?_
  obtain ⟨ds, Z, h1, G, g⟩ := hsp
  obtain ⟨ts, h2, h3⟩ := (hb cdv A out s H vs E hr hg).ex
  refine ⟨ts, h2, h3 Z (startD io N.length ds) (start N vs) H _ (env_start G) ?_⟩
  have e := hs ds h1 (fun z => by rw [z] at g; exact g)
  rw [← e] at g
  exact goal_end g
end Q

set_option linter.all false
set_option maxRecDepth 100000
set_option maxHeartbeats 4000000
namespace Q
open PySem PySem.Spec PyProof.Rows L2
mutual
theorem RD.freshAll {K : PySem.W.Frag} {mg : Str → Option Value} {Av : Addr → Prop} {H : Hp} {v : V} {d : D} (h : RD K mg Av H v d) : RD K mg (fun a => Av a ∨ H a = none) H v d := match h with
  | .non => .non
  | .bl b => .bl b
  | .int i => .int i
  | .str x => .str x
  | .tup h1 h2 h3 => .tup h1 (fun z => z.elim h2 fun e => by rcases h1 with q | ⟨_, q⟩ <;> (rw [e] at q; cases q)) (RDs.freshAll h3)
  | .tupK h1 h3 => .tupK h1 (RDs.freshAll h3)
  | .lst h1 h2 h3 => .lst h1 (fun z => z.elim h2 fun e => by rcases h1 with q | ⟨_, q⟩ <;> (rw [e] at q; cases q)) (RDs.freshAll h3)
  | .lstK h1 h3 => .lstK h1 (RDs.freshAll h3)
  | .dct h1 h2 h3 h4 => .dct h1 (fun z => z.elim h2 fun e => by rw [e] at h1; cases h1) h3 (RDs.freshAll h4)
  | .obj h0 h1 h2 h3 h4 => .obj h0 h1 (fun z => z.elim h2 fun e => by rw [e] at h1; cases h1) h3 (RDs.freshAll h4)
  | .fn h => .fn h
  | .exc0 h0 h1 h2 h3 h4 => .exc0 h0 h1 (fun z => z.elim h2 fun e => by rw [e] at h1; cases h1) h3 (fun z => z.elim h4 fun e => by rw [e] at h3; cases h3)
  | .exc1 h0 h1 h2 h3 h4 h5 h6 => .exc1 h0 h1 (fun z => z.elim h2 fun e => by rw [e] at h1; cases h1) h3 (fun z => z.elim h4 fun e => by rw [e] at h3; cases h3) h5 (RDs.freshAll h6)
theorem RDs.freshAll {K : PySem.W.Frag} {mg : Str → Option Value} {Av : Addr → Prop} {H : Hp} {vs : List V} {ds : List D} (h : RDs K mg Av H vs ds) : RDs K mg (fun a => Av a ∨ H a = none) H vs ds := match h with
  | .nil => .nil
  | .cons a b => .cons (RD.freshAll a) (RDs.freshAll b)
end
theorem Own.freshAll {K : PySem.W.Frag} {mg : Str → Option Value} {Av : Addr → Prop} {H : Hp} {q : Addr} {d : D} (h : Own K mg Av H q d) : Own K mg (fun a => Av a ∨ H a = none) H q d := by
  cases d with
  | lst ds => obtain ⟨vs, h1, h2⟩ := h; exact ⟨vs, h1, h2.freshAll⟩
  | dct ds => obtain ⟨vs, h1, h2, h3⟩ := h; exact ⟨vs, h1, h2, h3.freshAll⟩
  | obj m ds => obtain ⟨C, dx, fs, h0, h1, h2, h3⟩ := h; exact ⟨C, dx, fs, h0, h1, h2, h3.freshAll⟩
  | _ => exact h.elim
section
variable {c : DCtx} {B B' B1 : Addr → Prop} {env env' env1 env2 : DEnv} {σ : L2.St} {H H' H1 H2 : Hp} {W : WX}
/-- behind a call that changed nothing; new temporary ones may be told -/
theorem REnv.turn0 (R : REnv c B env σ H) (k : Kep (fun _ => False) H H') (dm : ∀ a o, H a = some o → ∃ o', H' a = some o') (hB : ∀ a, B' a → B a ∨ H a = none) (ht : ∀ a, B' a → ∃ o, H' a = some o) : REnv c B' env σ H' := by
  have av : ∀ a, AvE B' env σ a → AvE B env σ a ∨ H a = none := fun a h => h.elim (fun z => (hB a z).imp .inl id) (fun z => .inl (.inr z))
  have R2 := R.keep k dm
  refine ⟨R.len, fun i d e => ?_, fun i d e => ?_, R.inj, ht, R2.fr, R.fo, R.io, R2.dom⟩
  · obtain ⟨v, a, b⟩ := R.sh i d e
    exact ⟨v, a, b.freshAll.keep av (A := fun _ => False) (fun _ z => z.elim) k⟩
  · obtain ⟨p, a, n, b⟩ := R.own i d e
    obtain ⟨o, ho, _⟩ := b.trk
    refine ⟨p, a, fun z => ?_, b.freshAll.keep av (A := fun _ => False) (fun _ z => z.elim) k (fun z => z)⟩
    rcases hB p z with z | z
    · exact n z
    · rw [ho] at z; cases z
/-- .. that changed what slot i owns -/
theorem REnv.turn1 (R : REnv c B env σ H) {i : Nat} {p : Addr} {d0 d1 : D} (hi : env[i]? = some (DSlot.own d0)) (hp : σ[i]? = some (some (V.ref p))) (k : Kep (fun a => a = p) H H') (dm : ∀ a o, H a = some o → ∃ o', H' a = some o')
    (hB : ∀ a, B' a → B a ∨ H a = none) (ht : ∀ a, B' a → ∃ o, H' a = some o) (ho : Own c.K c.mg (AvE B' env σ) H' p d1) : REnv c B' (env.set i (.own d1)) σ H' := by
  have hl : i < env.length := (List.getElem?_eq_some_iff.mp hi).1
  have hO : OwnS env σ p := ⟨i, ⟨d0, hi⟩, hp⟩
  have own' : ∀ j q, IsOwn (env.set i (.own d1)) σ j q ↔ IsOwn env σ j q := fun j q => and_congr (isOwn_set hi j) Iff.rfl
  have avE : ∀ a, AvE B' (env.set i (.own d1)) σ a ↔ AvE B' env σ a := fun a => or_congr Iff.rfl ⟨fun ⟨j, z⟩ => ⟨j, (own' j a).mp z⟩, fun ⟨j, z⟩ => ⟨j, (own' j a).mpr z⟩⟩
  have av : ∀ a, AvE B' (env.set i (.own d1)) σ a → AvE B env σ a ∨ H a = none := fun a h => ((avE a).mp h).elim (fun z => (hB a z).imp .inl id) (fun z => .inl (.inr z))
  have hA : ∀ a, a = p → AvE B env σ a ∨ H a = none := fun a z => by rw [z]; exact .inl (.inr hO)
  have nb : ∀ q, (∃ o, H q = some o) → ¬ B q → ¬ B' q := fun q ⟨o, e⟩ n z => by
    rcases hB q z with z | z
    · exact n z
    · rw [e] at z; cases z
  refine ⟨by rw [List.length_set]; exact R.len, fun j d e => ?_, fun j d e => ?_, fun a b q h1 h2 => R.inj a b q ((own' a q).mp h1) ((own' b q).mp h2), ht, fun a u h n t => ?_, fun j q h => R.fo j q ((own' j q).mp h), fun q h => (own' _ _).mpr (R.io q h), fun a u h => let ⟨o', e⟩ := R.dom a u h; dm a o' e⟩
  · have hj : i ≠ j := fun z => by
      subst z
      rw [List.getElem?_set_self hl] at e; cases e
    rw [List.getElem?_set_ne hj] at e
    obtain ⟨v, a, b⟩ := R.sh j d e
    exact ⟨v, a, b.freshAll.keep av (A := fun a => a = p) hA k⟩
  · by_cases hj : i = j
    · subst hj
      rw [List.getElem?_set_self hl] at e
      cases e
      obtain ⟨q, e1, n, b⟩ := R.own i d0 hi
      rw [hp] at e1; cases e1
      obtain ⟨o, e2, _⟩ := b.trk
      exact ⟨p, hp, nb p ⟨o, e2⟩ n, ho.keep (fun a z => (avE a).mp z) (A := fun _ => False) (fun _ z => z.elim) (Kep.refl _ _) (fun z => z)⟩
    · rw [List.getElem?_set_ne hj] at e
      obtain ⟨q, a, n, b⟩ := R.own j d e
      obtain ⟨o, e2, _⟩ := b.trk
      refine ⟨q, a, nb q ⟨o, e2⟩ n, b.freshAll.keep av (A := fun a => a = p) hA k fun z => ?_⟩
      subst z
      exact hj (R.inj i j q ⟨⟨_, hi⟩, hp⟩ ⟨⟨_, e⟩, a⟩)
  · have ne : a ≠ p := fun z => by
      subst z
      rcases R.fo i a ⟨⟨_, hi⟩, hp⟩ with ⟨q, hq, e⟩ | h0
      · exact n q hq e
      · rw [h] at h0; cases h0
    exact k a u (R.fr a u h n t) ne t
end
/-! ### calls of the module's own defs -/
/-- what the arguments hold; the one at place k stands in the slot i and is handed in to be changed -/
def argsD (env : DEnv) (io : Option (Nat × Nat)) : Nat → List DVal → Option (List D)
  | _, [] => some []
  | j, x :: xs => match argsD env io (j + 1) xs with
    | none => none
    | some ds => match x with
      | .sh d => if io.map (·.1) = some j then none else some (d :: ds)
      | .new d => if io.map (·.1) = some j then none else some (d :: ds)
      | .own i => if io = some (j, i) then match env[i]? with
        | some (.own d) => some (d :: ds)
        | _ => none else none
def outE (io : Option (Nat × Nat)) (out : D) (e : DEnv) : DEnv := match io with
  | none => e
  | some (_, i) => e.set i (.own out)
def mCallU (F : List D → FRes) (n : Nat) (io : Option (Nat × Nat)) (ma : MA) : ME := fun env => (ma env).bind fun xs e => match argsD e io 0 xs with
  | some ds => if ds.length = n ∧ (io.map (·.1)).all (fun k => decide (k < n)) = true then match F ds with
    | .ok fr r out => .ok (if fr then .new r else .sh r) (outE io out e)
    | .exc x out => .exc x (outE io out e)
    | .stuck => .stuck else .stuck
  | none => .stuck
section
variable {c : DCtx} {B : Addr → Prop} {env : DEnv} {σ : L2.St} {H : Hp}
theorem argsD_len : ∀ {xs : List DVal} {j : Nat} {io : Option (Nat × Nat)} {ds : List D}, argsD env io j xs = some ds → ds.length = xs.length
  | [], _, _, _, h => by cases h; rfl
  | x :: xs, j, io, ds, h => by
    unfold argsD at h
    cases hr : argsD env io (j + 1) xs with
    | none => rw [hr] at h; cases h
    | some ds' =>
      rw [hr] at h
      have ih := argsD_len hr
      cases x with
      | sh d =>
        dsimp only at h
        split at h
        · cases h
        · cases h; simp [ih]
      | new d =>
        dsimp only at h
        split at h
        · cases h
        · cases h; simp [ih]
      | own i =>
        dsimp only at h
        split at h
        · split at h
          · cases h; simp [ih]
          · cases h
        · cases h
/-- the arguments by place -/
theorem argsD_at {xs : List DVal} {vs : List V} {B0 Bt : Addr → Prop} {io : Option (Nat × Nat)} (h : VRs c env σ H B xs vs) (R : REnv c B0 env σ H) (ht : ∀ a, Bt a → B a) (hb : ∀ a, addBs B xs vs a → B0 a) : ∀ {j : Nat} {ds : List D}, argsD env io j xs = some ds →
    (∀ i d, io.map (·.1) ≠ some (j + i) → ds[i]? = some d → ∃ v, vs[i]? = some v ∧ RD c.K c.mg (AvE Bt env σ) H v d) ∧
    (∀ i sl, io = some (j + i, sl) → i < ds.length → ∃ d p, ds[i]? = some d ∧ vs[i]? = some (V.ref p) ∧ env[sl]? = some (DSlot.own d) ∧ σ[sl]? = some (some (V.ref p))) := by
  induction h with
  | nil =>
    intro j ds e
    cases e
    exact ⟨fun i d _ e => (by cases e), fun i sl _ e => (by cases e)⟩
  | @cons B x v xs vs a t ih =>
    intro j ds e
    unfold argsD at e
    cases hr : argsD env io (j + 1) xs with
    | none => rw [hr] at e; cases e
    | some ds' =>
      rw [hr] at e
      obtain ⟨ih1, ih2⟩ := ih (fun b z => addB_sub b (ht b z)) hb hr
      have step1 : ∀ d0, RD c.K c.mg (AvE Bt env σ) H v d0 ∨ io.map (·.1) = some j → ∀ i d, io.map (·.1) ≠ some (j + i) → (d0 :: ds')[i]? = some d → ∃ u, (v :: vs)[i]? = some u ∧ RD c.K c.mg (AvE Bt env σ) H u d := by
        intro d0 h0 i d hn e
        cases i with
        | zero =>
          cases e
          rcases h0 with h0 | h0
          · exact ⟨v, rfl, h0⟩
          · exact (hn h0).elim
        | succ i => exact ih1 i d (by rw [show j + 1 + i = j + (i + 1) by omega]; exact hn) e
      have step2 : ∀ (d0 : D), (∀ sl, io = some (j, sl) → ∃ p, v = V.ref p ∧ env[sl]? = some (DSlot.own d0) ∧ σ[sl]? = some (some (V.ref p))) → ∀ i sl, io = some (j + i, sl) → i < (d0 :: ds').length → ∃ d p, (d0 :: ds')[i]? = some d ∧ (v :: vs)[i]? = some (V.ref p) ∧ env[sl]? = some (DSlot.own d) ∧ σ[sl]? = some (some (V.ref p)) := by
        intro d0 h0 i sl hn hl
        cases i with
        | zero =>
          obtain ⟨p, rfl, h1, h2⟩ := h0 sl hn
          exact ⟨d0, p, rfl, rfl, h1, h2⟩
        | succ i => exact ih2 i sl (by rw [show j + 1 + i = j + (i + 1) by omega]; exact hn) (by simpa using hl)
      cases x with
      | sh d =>
        dsimp only at e
        split at e
        · cases e
        · rename_i hn
          cases e
          exact ⟨step1 d (.inl (VR.free a rfl ht)), step2 d fun sl h => (hn (by rw [h]; rfl)).elim⟩
      | new d =>
        dsimp only at e
        split at e
        · cases e
        · rename_i hn
          cases e
          exact ⟨step1 d (.inl (VR.free a rfl ht)), step2 d fun sl h => (hn (by rw [h]; rfl)).elim⟩
      | own s =>
        dsimp only at e
        split at e
        · rename_i hio
          split at e
          · rename_i d he
            cases e
            obtain ⟨_, hσ⟩ := a
            obtain ⟨p, hp, _, _⟩ := R.own s d he
            rw [hσ] at hp
            cases hp
            refine ⟨step1 d (.inr (by rw [hio]; rfl)), step2 d fun sl h => ?_⟩
            rw [hio] at h
            cases h
            exact ⟨p, rfl, he, hσ⟩
          · cases e
        · cases e
end
theorem ref_callU {c : DCtx} {W : WX} {F : List D → FRes} {n : Nat} {io : Option (Nat × Nat)} {ta : TA} {ma : MA} (ha : RefA c W ta ma) : Ref c W (tCallG (spD c.K c.mg (io.map (·.1)) n F) W ta) (mCallU F n io ma) := by
  intro B env σ H Q R h
  refine ha B env σ H _ R (Goal.nextA Post.refl (fun _ z => z) h fun xs e vs H1 R1 V1 P1 h1 => ?_)
  cases ex : argsD e io 0 xs with
  | none => rw [ex] at h1; exact h1.elim
  | some ds =>
    rw [ex] at h1
    dsimp only at h1
    by_cases hn : ds.length = n ∧ (io.map (·.1)).all (fun k => decide (k < n)) = true
    · rw [if_pos hn] at h1
      obtain ⟨hn, hk⟩ := hn
      obtain ⟨a1, a2⟩ := argsD_at V1 R1 (Bt := B) (fun _ z => z) (fun _ z => z) ex
      have RB : REnv c B e σ H1 := R1.weak (fun a z => addBs_sub a z)
      have hlen : vs.length = ds.length := by
        have l1 := argsD_len ex
        have l2 : ∀ {B xs vs}, VRs c e σ H1 B xs vs → vs.length = xs.length := fun h => by
          induction h with
          | nil => rfl
          | cons _ _ ih => simp [ih]
        rw [l1]; exact l2 V1
      cases io with
      | none =>
        -- nothing is handed in to be changed
        refine ⟨ds, AvE B e σ, hn, ⟨hlen, fun a z => RB.trkA z, fun i d _ e1 => ?_, fun i z => (by cases z)⟩, ?_⟩
        · obtain ⟨v, h2, h3⟩ := a1 i d (by simp) e1
          exact ⟨v, h2, h3.mono fun a z => z.elim id fun ⟨j, z, _⟩ => by cases z⟩
        · have no : ∀ {vs : List V} (a : Addr), ¬ IoA (none : Option Nat) vs a := fun a ⟨_, z, _⟩ => by cases z
          have tr : ∀ {Av : Addr → Prop} {H' : Hp} {out : D}, FPost c.K c.mg Av (none : Option Nat) vs H1 H' out → ∀ {B' : Addr → Prop}, (∀ a, B' a → B a ∨ H1 a = none) → (∀ a, B' a → ∃ o, H' a = some o) → REnv c B' e σ H' ∧ Post env σ H e H' := fun p B' hB ht => by
            have k : Kep (fun _ => False) H1 _ := p.keep.mono fun a z => (no a z).elim
            exact ⟨RB.turn0 k p.dom hB ht, P1.trans (Post.kept k p.dom)⟩
          cases hf : F ds with
          | stuck => rw [hf] at h1; exact h1.elim
          | exc x out =>
            rw [hf] at h1
            intro cls dx H' X p
            obtain ⟨R2, P2⟩ := tr p (B' := B) (fun a z => .inl z) (fun a z => let ⟨o, e⟩ := RB.trk a z; p.dom a o e)
            exact h1 cls dx H' R2 (by obtain ⟨C, x1, x2, x3⟩ := X; exact ⟨C, x1, x2, x3.imp id fun ⟨d, vs, a, b, f, r⟩ => ⟨d, vs, a, b, f, r.mono fun _ z => .inl z⟩⟩) P2
          | ok fr r out =>
            rw [hf] at h1
            cases fr with
            | false =>
              intro v H' hr p
              obtain ⟨R2, P2⟩ := tr p (B' := B) (fun a z => .inl z) (fun a z => let ⟨o, e⟩ := RB.trk a z; p.dom a o e)
              exact h1 v H' R2 (hr.mono fun _ z => .inl z) P2 trivial
            | true =>
              intro q H' hq hr p
              obtain ⟨R2, P2⟩ := tr p (B' := fun a => B a ∨ a = q) (fun a z => z.imp id fun z => by rw [z]; exact hq) (fun a z => by
                rcases z with z | z
                · obtain ⟨o, e⟩ := RB.trk a z
                  exact p.dom a o e
                · obtain ⟨o, e, _⟩ := hr.trk
                  rw [z]; exact ⟨o, e⟩)
              refine h1 (.ref q) H' R2 ⟨q, rfl, RB.free hq, RB.no0 hq, ?_⟩ P2 (NewAt.back (H1 := H1) (x := .new r) (v := .ref q) hq P1.dom)
              exact hr.keep (fun a z => by
                rcases z with (z | z) | z
                · exact .inl (.inl (.inl z))
                · exact .inr z
                · exact .inl (.inl (.inr z))) (A := fun _ => False) (fun _ z => z.elim) (Kep.refl _ _) (fun z => z)
      | some ks =>
        obtain ⟨k, sl⟩ := ks
        have hk' : k < ds.length := by rw [hn]; simpa using hk
        obtain ⟨d0, p, e1, e2, e3, e4⟩ := a2 k sl (by rw [Nat.zero_add]) hk'
        have hO : OwnS e σ p := ⟨sl, ⟨d0, e3⟩, e4⟩
        have ioP : ∀ a, IoA (some k) vs a ↔ a = p := fun a => ⟨fun ⟨i, z, y⟩ => by cases z; rw [e2] at y; cases y; rfl, fun z => ⟨k, rfl, by rw [z]; exact e2⟩⟩
        have nB : ¬ B p := by
          obtain ⟨q, z1, z2, _⟩ := RB.own sl d0 e3
          rw [e4] at z1; cases z1
          exact z2
        have hZ : ∀ a, AvI (fun a => AvE B e σ a ∧ a ≠ p) (some k) vs a ↔ AvE B e σ a := fun a => ⟨fun z => z.elim (·.1) fun z => by rw [(ioP a).mp z]; exact .inr hO, fun z => by
          by_cases ha : a = p
          · exact .inr ((ioP a).mpr ha)
          · exact .inl ⟨z, ha⟩⟩
        refine ⟨ds, fun a => AvE B e σ a ∧ a ≠ p, hn, ⟨hlen, fun a z => RB.trkA (And.left z), fun i d hi e5 => ?_, fun i hi => ?_⟩, ?_⟩
        · obtain ⟨v, h2, h3⟩ := a1 i d (by rw [Nat.zero_add]; exact hi) e5
          exact ⟨v, h2, h3.mono fun a z => (hZ a).mp z⟩
        · cases hi
          obtain ⟨q, z1, z2, z3⟩ := RB.own sl d0 e3
          rw [e4] at z1; cases z1
          exact ⟨d0, p, e1, e2, fun z => (show AvE B e σ p ∧ p ≠ p from z).2 rfl, z3.keep (fun a z => (hZ a).mp z) (A := fun _ => False) (fun _ z => z.elim) (Kep.refl _ _) (fun z => z)⟩
        · have tr : ∀ {Av : Addr → Prop} {H' : Hp} {out : D}, FPost c.K c.mg Av (some k) vs H1 H' out → ∀ {B' : Addr → Prop}, (∀ a, B' a → B a ∨ H1 a = none) → (∀ a, B' a → ∃ o, H' a = some o) → (∀ a, AvE B' e σ a → Av a) → REnv c B' (e.set sl (.own out)) σ H' ∧ Post env σ H (e.set sl (.own out)) H' := fun po B' hB ht hA => by
            have kp : Kep (fun a => a = p) H1 _ := po.keep.mono fun a z => (ioP a).mp z
            exact ⟨RB.turn1 e3 e4 kp po.dom hB ht ((po.out p ((ioP p).mpr rfl)).keep hA (A := fun _ => False) (fun _ z => z.elim) (Kep.refl _ _) (fun z => z)),
              P1.trans ⟨isOwn_set e3, kp.mono fun a z => by rw [z]; exact hO, po.dom⟩⟩
          have avS : ∀ {B' : Addr → Prop} {out : D} (a : Addr), AvE B' (e.set sl (.own out)) σ a ↔ AvE B' e σ a := fun a => or_congr Iff.rfl ⟨fun ⟨j, z⟩ => ⟨j, (isOwn_set e3 j).mp z.1, z.2⟩, fun ⟨j, z⟩ => ⟨j, (isOwn_set e3 j).mpr z.1, z.2⟩⟩
          cases hf : F ds with
          | stuck => rw [hf] at h1; exact h1.elim
          | exc x out =>
            rw [hf] at h1
            intro cls dx H' X po
            obtain ⟨R2, P2⟩ := tr po (B' := B) (fun a z => .inl z) (fun a z => let ⟨o, e⟩ := RB.trk a z; po.dom a o e) (fun a z => (hZ a).mpr z)
            exact h1 cls dx H' R2 (by obtain ⟨C, x1, x2, x3⟩ := X; exact ⟨C, x1, x2, x3.imp id fun ⟨d, vs, a, b, f, r⟩ => ⟨d, vs, a, b, f, r.mono fun a z => (hZ a).mpr ((avS a).mp z)⟩⟩) P2
          | ok fr r out =>
            rw [hf] at h1
            cases fr with
            | false =>
              intro v H' hr po
              obtain ⟨R2, P2⟩ := tr po (B' := B) (fun a z => .inl z) (fun a z => let ⟨o, e⟩ := RB.trk a z; po.dom a o e) (fun a z => (hZ a).mpr z)
              exact h1 v H' R2 (hr.mono fun a z => (hZ a).mpr ((avS a).mp z)) P2 trivial
            | true =>
              intro q H' hq hr po
              have le : ∀ a, AvE (fun a => B a ∨ a = q) e σ a → AvI (fun a => AvE B e σ a ∧ a ≠ p) (some k) vs a ∨ a = q := fun a z => by
                rcases z with (z | z) | z
                · exact .inl ((hZ a).mpr (.inl z))
                · exact .inr z
                · exact .inl ((hZ a).mpr (.inr z))
              obtain ⟨R2, P2⟩ := tr po (B' := fun a => B a ∨ a = q) (fun a z => z.imp id fun z => by rw [z]; exact hq) (fun a z => by
                rcases z with z | z
                · obtain ⟨o, e⟩ := RB.trk a z
                  exact po.dom a o e
                · obtain ⟨o, e, _⟩ := hr.trk
                  rw [z]; exact ⟨o, e⟩) le
              refine h1 (.ref q) H' R2 ⟨q, rfl, fun z => RB.free hq ((avS q).mp z), RB.no0 hq, ?_⟩ P2 (NewAt.back (H1 := H1) (x := .new r) (v := .ref q) hq P1.dom)
              exact hr.keep (fun a z => le a ((avS a).mp z)) (A := fun _ => False) (fun _ z => z.elim) (Kep.refl _ _) (fun z => z)
    · rw [if_neg hn] at h1; exact h1.elim
end Q

set_option linter.all false
set_option maxRecDepth 100000
set_option maxHeartbeats 4000000
namespace Q
open PySem PySem.Spec PyProof.Rows L2
/-! ### what is walked -/
abbrev Dom (H H' : Hp) : Prop := ∀ a o, H a = some o → ∃ o', H' a = some o'
/-- J hands out ds, while nothing changes but Kp -/
structure JOk (K : PySem.W.Frag) (mg : Str → Option Value) (Kp Av : Addr → Prop) (H : Hp) (J : It) (ds : List D) : Prop where
  go : ∀ (H' : Hp) (i : Nat) (d : D) (Ai : Addr → Prop), Kep Kp H H' → Dom H H' → (∀ a, Ai a → Av a ∨ H a = none) → (∀ a, Ai a → ∃ o, H' a = some o) → ds[i]? = some d →
    J.go i H' ∧ ∀ x H'', J.yld i H' x H'' → Kep (fun _ => False) H' H'' ∧ Dom H' H'' ∧ RD K mg Ai H'' x d
  stop : ∀ (H' : Hp), Kep Kp H H' → Dom H H' → J.stop ds.length H'
def GoalI (c : DCtx) (W : WX) (B : Addr → Prop) (env : DEnv) (σ : L2.St) (H : Hp) (R : It → Hp → Prop) : DRes (List D) → Prop
  | .ok ds env' => ∀ J H' B', (∀ a, B a → B' a) → REnv c B' env' σ H' → Post env σ H env' H' → JOk c.K c.mg (OwnS env' σ) (AvE B' env' σ) H' J ds → R J H'
  | .exc x env' => ∀ cls dx H', REnv c B env' σ H' → RX c (AvE B env' σ) H' x cls dx → Post env σ H env' H' → W cls dx σ H'
  | .stuck => False
abbrev MI := DEnv → DRes (List D)
def RefI (c : DCtx) (W : WX) (wi : TI) (m : MI) : Prop := ∀ B env σ H R, REnv c B env σ H → GoalI c W B env σ H R (m env) → wi σ H R
def iAny (K : PySem.W.Frag) (tl : TE) : TI := fun σ H R => tl σ H fun x H1 => (∃ a xs, x = .ref a ∧ SqL K H1 a xs ∧ R (Itl K a) H1) ∨ (∃ a xs, x = .ref a ∧ SqT K H1 a xs ∧ R (Itt K a) H1) ∨ (∃ z, x = .str z ∧ R (Its z) H1)
theorem pi_any {X : Cx} {tg l : Expr} {tl : TE} (hl : PE X l tl) : PI X tg l (iAny X.K tl) := by
  refine ⟨fun pins s σ H R I h => thn (hl.run pins s σ H _ I h) fun v s1 ⟨x, H1, I1, r1, q1⟩ => ?_⟩
  have new : ∀ b ∈ [s1.heap.objs.size], FpOk X pins H1 b := fun b hb => by
    rw [List.mem_singleton.mp hb]
    exact I1.fpOk (Nat.le_refl _) (I1.hok.fresh (Nat.le_refl _))
  rcases q1 with ⟨a, xs, rfl, hq, q⟩ | ⟨a, xs, rfl, hq, q⟩ | ⟨z, rfl, q⟩
  · cases r1
    obtain ⟨its, _, p, _⟩ := I1.list hq
    exact wpAny_pyIter_list p.isList ⟨s1.heap.objs.size, _, _, _, H1, rfl, I1.kept (t' := s1.toks) (fun b o e => Heap.get?_push_of_some _ e), turn_list a _, ⟨_, Heap.get?_push_size _ rfl, rfl, rfl⟩, new, q⟩
  · cases r1
    obtain ⟨its, _, p, _⟩ := I1.tuple hq
    exact wpAny_pyIter_tuple (show s1.heap.IsTuple a its.toArray from p) ⟨s1.heap.objs.size, _, _, _, H1, rfl, I1.kept (t' := s1.toks) (fun b o e => Heap.get?_push_of_some _ e), turn_tuple a _, ⟨_, Heap.get?_push_size _ rfl, rfl, rfl⟩, new, q⟩
  · obtain ⟨t, rfl⟩ := r1
    cases ha : z.cps.all (· < 128)
    · exact wpAny_pyIter_wide ha (pi_one (tk := s1.toks) I1 _ (turn_str _ z t "str_iterator" (.inr rfl)) ⟨_, Heap.get?_push_size _ rfl, rfl, rfl⟩ q)
    · exact wpAny_pyIter_ascii ha (pi_one (tk := s1.toks) I1 _ (turn_str _ z t "str_ascii_iterator" (.inl rfl)) ⟨_, Heap.get?_push_size _ rfl, rfl, rfl⟩ q)
/-- the signs of a text -/
def signs (z : Str) : List D := z.cps.toList.map fun k => .str ⟨#[k]⟩
def itemsD : D → Option (List D)
  | .lst ds => some ds
  | .tup ds => some ds
  | .str z => some (signs z)
  | _ => none
def mAny (m : ME) : MI := fun env => (m env).bind fun x e => match x with
  | .sh d => match itemsD d with
    | some ds => .ok ds e
    | none => .stuck
  | .new d => match itemsD d with
    | some ds => .ok ds e
    | none => .stuck
  | .own _ => .stuck
/-- the ints lo, lo + 1, .. -/
def intsFrom (lo : Int) : Nat → List D
  | 0 => []
  | n + 1 => .int lo :: intsFrom (lo + 1) n
def mRng1 (ma : MA) : MI := fun env => (ma env).bind fun xs e => match views e xs with
  | some [.int j] => if -(2 ^ 62) ≤ j ∧ j < 2 ^ 62 then .ok (intsFrom 0 j.toNat) e else .stuck
  | _ => .stuck
def mRng2 (ma : MA) : MI := fun env => (ma env).bind fun xs e => match views e xs with
  | some [.int i, .int j] => if -(2 ^ 62) ≤ i ∧ i < 2 ^ 62 ∧ -(2 ^ 62) ≤ j ∧ j < 2 ^ 62 then .ok (intsFrom i (j - i).toNat) e else .stuck
  | _ => .stuck
section
variable {c : DCtx} {B B' B1 : Addr → Prop} {env env' env1 env2 : DEnv} {σ : L2.St} {H H' H1 H2 : Hp} {W : WX}
theorem jok_list {Kp Av : Addr → Prop} {a : Addr} {vs : List V} {ds : List D} (h : LstAt c.K H a vs) (ha : ¬ Kp a) (hr : RDs c.K c.mg Av H vs ds) (hk : ∀ a, Kp a → Av a) : JOk c.K c.mg Kp Av H (Itl c.K a) ds := by
  have st : ∀ H', Kep Kp H H' → SqL c.K H' a vs := fun H' k => h.elim (fun r => .inl (keep_rd k ha nt_lst r)) (fun r => LstAt.sq (.inr r))
  refine ⟨fun H' i d Ai k dm hA _ e => ?_, fun H' k dm => ⟨vs, st H' k, by rw [hr.length]; exact Nat.le_refl _⟩⟩
  obtain ⟨v, e1, e2⟩ := hr.get e
  refine ⟨⟨vs, v, st H' k, e1⟩, fun x H'' y => ?_⟩
  obtain ⟨rfl, y⟩ := y
  have := y vs (st H'' k)
  rw [e1] at this; cases this
  exact ⟨Kep.refl _ _, fun a o h => ⟨o, h⟩, e2.freshAll.keep hA (A := Kp) (fun a z => .inl (hk a z)) k⟩
theorem jok_tup {Kp Av : Addr → Prop} {a : Addr} {vs : List V} {ds : List D} (h : SqT c.K H a vs) (hr : RDs c.K c.mg Av H vs ds) (hk : ∀ a, Kp a → Av a) (hm : ∀ H', Kep Kp H H' → SqT c.K H' a vs) : JOk c.K c.mg Kp Av H (Itt c.K a) ds := by
  refine ⟨fun H' i d Ai k dm hA _ e => ?_, fun H' k dm => ⟨vs, hm H' k, by rw [hr.length]; exact Nat.le_refl _⟩⟩
  obtain ⟨v, e1, e2⟩ := hr.get e
  refine ⟨⟨vs, v, hm H' k, e1⟩, fun x H'' y => ?_⟩
  obtain ⟨rfl, y⟩ := y
  have := y vs (hm H'' k)
  rw [e1] at this; cases this
  exact ⟨Kep.refl _ _, fun a o h => ⟨o, h⟩, e2.freshAll.keep hA (A := Kp) (fun a z => .inl (hk a z)) k⟩
theorem jok_str {Kp Av : Addr → Prop} {z : Str} : JOk c.K c.mg Kp Av H (Its z) (signs z) := by
  refine ⟨fun H' i d Ai k dm hA _ e => ?_, fun H' k dm => by show z.cps.size ≤ (signs z).length; unfold signs; simp⟩
  unfold signs at e
  rw [List.getElem?_map] at e
  cases hz : z.cps.toList[i]? with
  | none => rw [hz] at e; cases e
  | some q =>
    rw [hz] at e
    cases e
    have hz' : z.cps[i]? = some q := by simpa using hz
    refine ⟨?_, fun x H'' y => ?_⟩
    · obtain ⟨hl, _⟩ := Array.getElem?_eq_some_iff.mp hz'
      exact hl
    · obtain ⟨rfl, k', e1, rfl⟩ := y
      rw [hz'] at e1; cases e1
      exact ⟨Kep.refl _ _, fun a o h => ⟨o, h⟩, .str _⟩
theorem intsFrom_at : ∀ {n i : Nat} {lo : Int} {d : D}, (intsFrom lo n)[i]? = some d → i < n ∧ d = .int (lo + i)
  | 0, _, _, _, h => by cases h
  | n + 1, 0, lo, d, h => by cases h; exact ⟨Nat.succ_pos _, by simp⟩
  | n + 1, i + 1, lo, d, h => by
    have := intsFrom_at (n := n) (i := i) h
    exact ⟨by omega, by rw [this.2]; congr 1; omega⟩
theorem intsFrom_len : ∀ {n : Nat} {lo : Int}, (intsFrom lo n).length = n
  | 0, _ => rfl
  | n + 1, lo => by simp [intsFrom, intsFrom_len (n := n)]
theorem jok_rng {Kp Av : Addr → Prop} {lo : Int} {n : Nat} : JOk c.K c.mg Kp Av H (Itr lo n) (intsFrom lo n) := by
  refine ⟨fun H' i d Ai k dm hA _ e => ?_, fun H' k dm => by show n ≤ _; rw [intsFrom_len]; exact Nat.le_refl _⟩
  obtain ⟨h1, rfl⟩ := intsFrom_at e
  refine ⟨h1, fun x H'' y => ?_⟩
  obtain ⟨rfl, rfl⟩ := y
  exact ⟨Kep.refl _ _, fun a o h => ⟨o, h⟩, .int _⟩
theorem GoalI.next {R : It → Hp → Prop} {Q1 : VK} {r : DRes DVal} {k : DVal → DEnv → DRes (List D)} (h : GoalI c W B env σ H R (r.bind k))
    (hk : ∀ x e v H2, REnv c (addB B x v) e σ H2 → VR c B e σ H2 x v → Post env σ H e H2 → GoalI c W B env σ H R (k x e) → Q1 v H2) : Goal c W B env σ H Q1 r := by
  cases r with
  | stuck => exact h
  | exc x e => exact h
  | ok x e => exact fun v H' R V P _ => hk x e v H' R V P h
theorem GoalI.nextA {R : It → Hp → Prop} {Q1 : List V → Hp → Prop} {r : DRes (List DVal)} {k : List DVal → DEnv → DRes (List D)} (h : GoalI c W B env σ H R (r.bind k))
    (hk : ∀ xs e vs H2, REnv c (addBs B xs vs) e σ H2 → VRs c e σ H2 B xs vs → Post env σ H e H2 → GoalI c W B env σ H R (k xs e) → Q1 vs H2) : GoalA c W B env σ H Q1 r := by
  cases r with
  | stuck => exact h
  | exc x e => exact h
  | ok x e => exact fun v H' R V P => hk x e v H' R V P h
theorem ref_any {tl : TE} {m : ME} (h : Ref c W tl m) : RefI c W (iAny c.K tl) (mAny m) := by
  intro B env σ H R R0 g
  refine h B env σ H _ R0 (GoalI.next g fun x e v H1 R1 V1 P1 g1 => ?_)
  cases x with
  | own i => exact g1.elim
  | sh d =>
    dsimp only at g1
    cases V1 with
    | lst h1 h2 h3 => exact .inl ⟨_, _, rfl, .inl h1, g1 _ H1 B (fun _ z => z) R1 P1 (jok_list (.inl h1) (fun z => h2 (.inr z)) h3 (fun _ => .inr))⟩
    | lstK h1 h3 =>
      -- an object of the module
      refine .inl ⟨_, _, rfl, LstAt.sq (.inr h1), g1 _ H1 B (fun _ z => z) R1 P1 ⟨fun H' i d Ai k dm hA _ q => ?_, fun H' k dm => ⟨_, LstAt.sq (.inr h1), by rw [h3.length]; exact Nat.le_refl _⟩⟩⟩
      obtain ⟨v, e1, e2⟩ := h3.get q
      refine ⟨⟨_, v, LstAt.sq (.inr h1), e1⟩, fun x H'' y => ?_⟩
      obtain ⟨rfl, y⟩ := y
      have := y _ (LstAt.sq (.inr h1))
      rw [e1] at this; cases this
      exact ⟨Kep.refl _ _, fun a o h => ⟨o, h⟩, e2.freshAll.keep hA (A := OwnS e σ) (fun a z => .inl (.inr z)) k⟩
    | tup h1 h2 h3 => exact .inr (.inl ⟨_, _, rfl, .inl h1, g1 _ H1 B (fun _ z => z) R1 P1 (jok_tup (.inl h1) h3 (fun _ => .inr) fun H' k => .inl (keep_rd k (fun z => h2 (.inr z)) nt_tup h1))⟩)
    | tupK h1 h3 => exact .inr (.inl ⟨_, _, rfl, .inr h1, g1 _ H1 B (fun _ z => z) R1 P1 (jok_tup (.inr h1) h3 (fun _ => .inr) fun H' k => .inr h1)⟩)
    | str z => exact .inr (.inr ⟨z, rfl, g1 _ H1 B (fun _ z => z) R1 P1 jok_str⟩)
    | _ => exact g1.elim
  | new d =>
    dsimp only at g1
    obtain ⟨p, rfl, n, h0, o⟩ := V1
    cases d with
    | lst ds =>
      obtain ⟨vs, h1, h2⟩ := o
      exact .inl ⟨p, vs, rfl, .of h1, g1 _ H1 _ (fun a z => addB_sub a z) R1 P1 (jok_list (.inl (.inl h1)) (fun z => n (.inr z)) h2 (fun _ => .inr))⟩
    | str z => exact o.elim
    | tup ds => exact o.elim
    | _ => exact g1.elim
theorem ref_rng1 {ta : TA} {m : MA} (h : RefA c W ta m) : RefI c W (iRng1 ta) (mRng1 m) := by
  intro B env σ H R R0 g
  refine h B env σ H _ R0 (GoalI.nextA g fun xs e vs H1 R1 V1 P1 g1 => ?_)
  cases ev : views e xs with
  | none => rw [ev] at g1; exact g1.elim
  | some ds =>
    have t := V1.tops R1 (fun _ z => z) (Bt := B) (fun _ z => z) ev
    rw [ev] at g1
    cases t with
    | nil => exact g1.elim
    | cons a b =>
      cases b with
      | cons _ _ => cases a <;> exact g1.elim
      | nil =>
        cases a with
        | int j =>
          dsimp only at g1
          by_cases hj : -(2 ^ 62) ≤ j ∧ j < 2 ^ 62
          · rw [if_pos hj] at g1
            exact ⟨j, rfl, hj.1, hj.2, g1 _ H1 B (fun _ z => z) (R1.weak (fun a z => addBs_sub a z)) P1 jok_rng⟩
          · rw [if_neg hj] at g1; exact g1.elim
        | _ => exact g1.elim
theorem ref_rng2 {ta : TA} {m : MA} (h : RefA c W ta m) : RefI c W (iRng2 ta) (mRng2 m) := by
  intro B env σ H R R0 g
  refine h B env σ H _ R0 (GoalI.nextA g fun xs e vs H1 R1 V1 P1 g1 => ?_)
  cases ev : views e xs with
  | none => rw [ev] at g1; exact g1.elim
  | some ds =>
    have t := V1.tops R1 (fun _ z => z) (Bt := B) (fun _ z => z) ev
    rw [ev] at g1
    cases t with
    | nil => exact g1.elim
    | cons a b =>
      cases b with
      | nil => cases a <;> exact g1.elim
      | cons a' b =>
        cases b with
        | cons _ _ => cases a <;> cases a' <;> exact g1.elim
        | nil =>
          cases a with
          | int i =>
            cases a' with
            | int j =>
              dsimp only at g1
              by_cases hj : -(2 ^ 62) ≤ i ∧ i < 2 ^ 62 ∧ -(2 ^ 62) ≤ j ∧ j < 2 ^ 62
              · rw [if_pos hj] at g1
                exact ⟨i, j, rfl, hj, g1 _ H1 B (fun _ z => z) (R1.weak (fun a z => addBs_sub a z)) P1 jok_rng⟩
              · rw [if_neg hj] at g1; exact g1.elim
            | _ => exact g1.elim
          | _ => exact g1.elim

/-! ### targets -/
abbrev MG := D → DEnv → Option DEnv
structure GPost (sl : List Nat) (env : DEnv) (σ : L2.St) (H : Hp) (env' : DEnv) (σ' : L2.St) : Prop where
  len : σ'.length = σ.length
  out : ∀ j, j ∉ sl → σ'[j]? = σ[j]? ∧ env'[j]? = env[j]?
  own : ∀ p, OwnS env' σ' p → OwnS env σ p
def RefG (c : DCtx) (sl : List Nat) (g : TG) (b : MG) : Prop := ∀ B env σ H v d Q, REnv c B env σ H → RD c.K c.mg (AvE B env σ) H v d →
  (match b d env with
    | some e' => ∀ σ', REnv c B e' σ' H → GPost sl env σ H e' σ' → Q σ' H
    | none => False) → g v σ H Q
def RefGs (c : DCtx) (sl : List Nat) (g : TGs) (b : List D → DEnv → Option DEnv) : Prop := ∀ B env σ H vs ds Q, REnv c B env σ H → RDs c.K c.mg (AvE B env σ) H vs ds →
  (match b ds env with
    | some e' => ∀ σ', REnv c B e' σ' H → GPost sl env σ H e' σ' → Q σ' H
    | none => False) → g vs σ H Q
def bName (i : Nat) : MG := fun d e => some (e.set i (.sh d))
def bNil : List D → DEnv → Option DEnv
  | [], e => some e
  | _, _ => none
def bCons (b : MG) (bs : List D → DEnv → Option DEnv) : List D → DEnv → Option DEnv
  | d :: ds, e => match b d e with
    | some e1 => bs ds e1
    | none => none
  | [], _ => none
def bTup (n : Nat) (bs : List D → DEnv → Option DEnv) : MG := fun d e => match d with
  | .tup ds => if ds.length = n then bs ds e else none
  | _ => none
theorem refG_name {i : Nat} (hio : ∀ q ∈ c.io, q.1 ≠ i) : RefG c [i] (gName i) (bName i) := fun B env σ H v d Q R hv h =>
  h _ (R.setSh hv hio) ⟨List.length_set .., fun j hj => by
    have : i ≠ j := fun z => hj (by rw [z]; exact List.mem_singleton.mpr rfl)
    exact ⟨List.getElem?_set_ne this, List.getElem?_set_ne this⟩, fun p ⟨j, z⟩ => ⟨j, (isOwn_setSh z).2⟩⟩
theorem refGs_nil : RefGs c [] gNil bNil := by
  intro B env σ H vs ds Q R hv h
  cases hv with
  | nil => exact ⟨rfl, h σ R ⟨rfl, fun _ _ => ⟨rfl, rfl⟩, fun _ z => z⟩⟩
  | cons _ _ => exact h.elim
theorem refGs_cons {sl sl' : List Nat} {g : TG} {gs : TGs} {b : MG} {bs : List D → DEnv → Option DEnv} (h : RefG c sl g b) (h' : RefGs c sl' gs bs) : RefGs c (sl ++ sl') (gCons g gs) (bCons b bs) := by
  intro B env σ H vs ds Q R hv q
  cases hv with
  | nil => exact q.elim
  | @cons v d vs ds a t =>
    refine ⟨v, vs, rfl, h B env σ H v d _ R a ?_⟩
    have q' : (match (match b d env with | some e1 => bs ds e1 | none => none) with | some e' => ∀ σ', REnv c B e' σ' H → GPost (sl ++ sl') env σ H e' σ' → Q σ' H | none => False) := q
    cases hb : b d env with
    | none => rw [hb] at q'; exact q'
    | some e1 =>
      rw [hb] at q'
      intro σ1 R1 P1
      have av : ∀ a, AvE B e1 σ1 a → AvE B env σ a := fun a z => z.imp id (P1.own a)
      refine h' B e1 σ1 H vs ds Q R1 (t.mono av) ?_
      dsimp only at q'
      cases hbs : bs ds e1 with
      | none => rw [hbs] at q'; exact q'
      | some e2 =>
        rw [hbs] at q'
        exact fun σ2 R2 P2 => q' σ2 R2 ⟨P2.len.trans P1.len, fun j hj => by
          have n1 : j ∉ sl := fun z => hj (List.mem_append_left _ z)
          have n2 : j ∉ sl' := fun z => hj (List.mem_append_right _ z)
          exact ⟨(P2.out j n2).1.trans (P1.out j n1).1, (P2.out j n2).2.trans (P1.out j n1).2⟩, fun p z => P1.own p (P2.own p z)⟩
theorem refG_tup {sl : List Nat} {gs : TGs} {bs : List D → DEnv → Option DEnv} {n : Nat} (h : RefGs c sl gs bs) : RefG c sl (gTup c.K n gs) (bTup n bs) := by
  intro B env σ H v d Q R hv q
  cases d with
  | tup ds =>
    have q' : (match (if ds.length = n then bs ds env else none) with | some e' => ∀ σ', REnv c B e' σ' H → GPost sl env σ H e' σ' → Q σ' H | none => False) := q
    by_cases hn : ds.length = n
    · rw [if_pos hn] at q'
      cases hv with
      | tup h1 h2 h3 => exact ⟨_, _, rfl, .inl h1, by rw [h3.length]; exact hn, h B env σ H _ ds Q R h3 q'⟩
      | tupK h1 h3 => exact ⟨_, _, rfl, .inr h1, by rw [h3.length]; exact hn, h B env σ H _ ds Q R h3 q'⟩
    · rw [if_neg hn] at q'; exact q'.elim
  | _ => exact q.elim

/-! ### for -/
def forD (b : MG) (body : MS) : List D → DEnv → DRes DFlow
  | [], e => .ok .nx e
  | d :: ds, e => match b d e with
    | none => .stuck
    | some e1 => match body e1 with
      | .ok .nx e2 => forD b body ds e2
      | .ok .ct e2 => forD b body ds e2
      | .ok .bk e2 => .ok .nx e2
      | .ok (.rt v) e2 => .ok (.rt v) e2
      | .exc x e2 => .exc x e2
      | .stuck => .stuck
def mFor (mi : MI) (b : MG) (body : MS) : MS := fun env => (mi env).bind fun ds e => forD b body ds e
theorem refS_for {wi : TI} {g : TG} {tb : TS} {mi : MI} {b : MG} {body : MS} {sl : List Nat} (hi : RefI c W wi mi) (hg : RefG c sl g b) (hb : RefS c W tb body) : RefS c W (tFor wi g tb) (mFor mi b body) := by
  intro B env σ H Dn R0 goal
  refine hi B env σ H _ R0 ?_
  have goal' : GoalS c W B env σ H Dn ((mi env).bind fun ds e => forD b body ds e) := goal
  cases hm : mi env with
  | stuck => rw [hm] at goal'; exact goal'
  | exc x e => rw [hm] at goal'; exact fun cls dx H' R X P => goal' cls dx σ H' R X (PostS.of P)
  | ok ds e1 =>
    rw [hm] at goal'
    intro J H1 B1 hB R1 P1 jok
    refine ⟨fun i m σ' H' => m + i = ds.length ∧ ∃ e', REnv c B1 e' σ' H' ∧ PostS e1 σ H1 e' σ' H' ∧ GoalS c W B env σ H Dn (forD b body (ds.drop i) e'), ⟨ds.length, rfl, e1, R1, PostS.refl, goal'⟩, ?_⟩
    rintro i m σ' H' ⟨hmi, e', R2, P2, g2⟩
    have P12 : PostS env σ H e' σ' H' := (PostS.of P1).trans P2
    cases m with
    | zero =>
      have hi' : i = ds.length := by omega
      rw [hi', List.drop_length] at g2
      refine .inl ⟨by rw [hi']; exact jok.stop H' P2.keep P2.dom, g2 σ' H' (R2.weak hB) P12⟩
    | succ m =>
      have hl : i < ds.length := by omega
      obtain ⟨d, hd⟩ : ∃ d, ds[i]? = some d := ⟨ds[i], List.getElem?_eq_getElem hl⟩
      have hdrop : ds.drop i = d :: ds.drop (i + 1) := by
        rw [List.drop_eq_getElem_cons hl]
        have := List.getElem?_eq_getElem hl
        rw [hd] at this
        cases this
        rfl
      rw [hdrop] at g2
      obtain ⟨go, yl⟩ := jok.go H' i d (AvE B1 e' σ') P2.keep P2.dom (fun a z => by
        rcases z with z | z
        · exact .inl (.inl z)
        · rcases P2.own a z with z | z
          · exact .inl (.inr z)
          · exact .inr z) (fun a z => R2.trkA z) hd
      refine .inr ⟨go, fun σ2 H2 => m + (i + 1) = ds.length ∧ ∃ e', REnv c B1 e' σ2 H2 ∧ PostS e1 σ H1 e' σ2 H2 ∧ GoalS c W B env σ H Dn (forD b body (ds.drop (i + 1)) e'), fun σ2 H2 w => ⟨m, Nat.lt_succ_self _, w⟩, fun x H3 hy => ?_⟩
      obtain ⟨k3, d3, r3⟩ := yl x H3 hy
      have R3 : REnv c B1 e' σ' H3 := R2.keep k3 d3
      have P3 : PostS e1 σ H1 e' σ' H3 := P2.trans (PostS.of (Post.kept k3 d3))
      refine hg B1 e' σ' H3 x d _ R3 r3 ?_
      have g2' : GoalS c W B env σ H Dn (match b d e' with | none => .stuck | some e1 => match body e1 with | .ok .nx e2 => forD b body (ds.drop (i + 1)) e2 | .ok .ct e2 => forD b body (ds.drop (i + 1)) e2 | .ok .bk e2 => .ok .nx e2 | .ok (.rt v) e2 => .ok (.rt v) e2 | .exc x e2 => .exc x e2 | .stuck => .stuck) := g2
      cases hbd : b d e' with
      | none => rw [hbd] at g2'; exact g2'
      | some e4 =>
        rw [hbd] at g2'
        intro σ4 R4 G4
        have P4 : PostS e1 σ H1 e4 σ4 H3 := P3.trans ⟨Kep.refl _ _, fun a o h => ⟨o, h⟩, fun p z => .inl (G4.own p z)⟩
        have P04 : PostS env σ H e4 σ4 H3 := (PostS.of P1).trans P4
        refine hb B1 e4 σ4 H3 _ R4 ?_
        dsimp only at g2'
        cases hbo : body e4 with
        | stuck => rw [hbo] at g2'; exact g2'
        | exc x e => rw [hbo] at g2'; exact fun cls dx σ5 H5 R5 X P5 => g2' cls dx σ5 H5 (R5.weak hB) (X.mono (AvE.mono hB)) (P04.trans P5)
        | ok f e =>
          rw [hbo] at g2'
          cases f with
          | nx => exact fun σ5 H5 R5 P5 => ⟨by omega, e, R5, P4.trans P5, g2'⟩
          | ct => exact fun σ5 H5 R5 P5 => ⟨by omega, e, R5, P4.trans P5, g2'⟩
          | bk => exact fun σ5 H5 R5 P5 => g2' σ5 H5 (R5.weak hB) (P04.trans P5)
          | rt v => exact GoalS.back (r := .ok (.rt v) e) P04 hB g2'
end
end Q

set_option linter.all false
set_option maxRecDepth 100000
set_option maxHeartbeats 4000000
namespace Q
open PySem PySem.Spec PyProof.Rows L2
/-! ### list comprehensions -/
def wipeE (e : DEnv) : List Nat → DEnv
  | [] => e
  | v :: vs => (wipeE e vs).set v .no
def isOwnB : Option DSlot → Bool
  | some (.own _) => true
  | _ => false
def noOwn (e : DEnv) (vs : List Nat) : Bool := vs.all fun i => !isOwnB e[i]?
theorem wipeE_len (e : DEnv) : ∀ vs : List Nat, (wipeE e vs).length = e.length
  | [] => rfl
  | v :: vs => by unfold wipeE; rw [List.length_set, wipeE_len e vs]
theorem wipeE_out (e : DEnv) {j : Nat} : ∀ {vs : List Nat}, j ∉ vs → (wipeE e vs)[j]? = e[j]?
  | [], _ => rfl
  | v :: vs, h => by
    unfold wipeE
    have h1 : v ≠ j := fun z => h (by rw [z]; exact List.mem_cons_self)
    rw [List.getElem?_set_ne h1]
    exact wipeE_out e fun z => h (List.mem_cons_of_mem _ z)
theorem wipeE_in (e : DEnv) {j : Nat} {x : DSlot} : ∀ {vs : List Nat}, j ∈ vs → (wipeE e vs)[j]? = some x → x = .no
  | v :: vs, h, g => by
    unfold wipeE at g
    by_cases hv : v = j
    · subst hv
      by_cases hl : v < (wipeE e vs).length
      · rw [List.getElem?_set_self hl] at g; cases g; rfl
      · rw [List.getElem?_eq_none_iff.mpr (by rw [List.length_set]; omega)] at g; cases g
    · rw [List.getElem?_set_ne hv] at g
      rcases List.mem_cons.mp h with z | z
      · exact (hv z.symm).elim
      · exact wipeE_in e z g
theorem wipe_ext {a b : L2.St} (hl : a.length = b.length) : ∀ {vs : List Nat}, (∀ j, j ∉ vs → a[j]? = b[j]?) → L2.wipe a vs = L2.wipe b vs := by
  intro vs h
  apply List.ext_getElem?
  intro j
  by_cases hj : j ∈ vs
  · have hin : ∀ (c : L2.St) (vs : List Nat), j ∈ vs → (L2.wipe c vs)[j]? = if j < c.length then some none else none := by
      intro c vs
      induction vs with
      | nil => intro z; cases z
      | cons v vs ih =>
        intro z
        unfold L2.wipe
        by_cases hv : v = j
        · subst hv
          by_cases hl : v < c.length
          · rw [List.getElem?_set_self (by rw [wipe_length]; exact hl), if_pos hl]
          · rw [if_neg hl, List.getElem?_eq_none_iff.mpr (by rw [List.length_set, wipe_length]; omega)]
        · rw [List.getElem?_set_ne hv]
          rcases List.mem_cons.mp z with z | z
          · exact (hv z.symm).elim
          · exact ih z
    rw [hin a vs hj, hin b vs hj, hl]
  · rw [wipe_out hj, wipe_out hj]
    exact h j hj
section
variable {c : DCtx} {B B' B1 : Addr → Prop} {env env' env1 env2 : DEnv} {σ σ1 σ2 : L2.St} {H H' H1 H2 : Hp} {W : WX} {vs : List Nat}
theorem noOwn_at (h : noOwn env vs = true) {j : Nat} (hj : j ∈ vs) {d : D} : env[j]? ≠ some (DSlot.own d) := fun z => by
  have := List.all_eq_true.mp h j hj
  rw [z] at this
  exact Bool.noConfusion this
/-- the slots at vs are forgotten -/
theorem REnv.forget (R : REnv c B env σ H) (hn : ∀ j ∈ vs, ∀ d : D, env[j]? ≠ some (DSlot.own d)) : REnv c B (wipeE env vs) σ H ∧ (∀ p, OwnS (wipeE env vs) σ p ↔ OwnS env σ p) := by
  have io : ∀ j p, IsOwn (wipeE env vs) σ j p ↔ IsOwn env σ j p := fun j p => by
    by_cases hj : j ∈ vs
    · exact ⟨fun ⟨⟨d, e⟩, _⟩ => (by cases wipeE_in env hj e), fun ⟨⟨d, e⟩, _⟩ => (hn j hj d e).elim⟩
    · unfold IsOwn
      rw [wipeE_out env hj]
  have os : ∀ p, OwnS (wipeE env vs) σ p ↔ OwnS env σ p := fun p => exists_congr fun j => io j p
  have av : ∀ a, AvE B (wipeE env vs) σ a → AvE B env σ a := fun a => Or.imp id (os a).mp
  refine ⟨⟨by rw [wipeE_len]; exact R.len, fun j d e => ?_, fun j d e => ?_, fun a b q h1 h2 => R.inj a b q ((io a q).mp h1) ((io b q).mp h2), R.trk, R.fr, fun j q h => R.fo j q ((io j q).mp h), fun q h => (io _ _).mpr (R.io q h), R.dom⟩, os⟩
  · by_cases hj : j ∈ vs
    · cases wipeE_in env hj e
    · rw [wipeE_out env hj] at e
      obtain ⟨v, a, b⟩ := R.sh j d e
      exact ⟨v, a, b.mono av⟩
  · by_cases hj : j ∈ vs
    · cases wipeE_in env hj e
    · rw [wipeE_out env hj] at e
      obtain ⟨p, a, n, b⟩ := R.own j d e
      exact ⟨p, a, n, b.keep av (A := fun _ => False) (fun _ z => z.elim) (Kep.refl _ _) (fun z => z)⟩
/-- of the slots at vs nothing is known: they may hold anything -/
theorem REnv.agree (R : REnv c B env σ1 H) (hl : σ2.length = σ1.length) (ho : ∀ j, j ∉ vs → σ2[j]? = σ1[j]?) (hno : ∀ j ∈ vs, ∀ x, env[j]? = some x → x = .no) : REnv c B env σ2 H ∧ (∀ p, OwnS env σ2 p ↔ OwnS env σ1 p) := by
  have nv : ∀ {j : Nat} {x : DSlot}, env[j]? = some x → x ≠ .no → j ∉ vs := fun e n hj => n (hno _ hj _ e)
  have io : ∀ j p, IsOwn env σ2 j p ↔ IsOwn env σ1 j p := fun j p => by
    constructor
    · rintro ⟨⟨d, e⟩, h⟩
      exact ⟨⟨d, e⟩, (ho j (nv e fun z => by cases z)).symm.trans h⟩
    · rintro ⟨⟨d, e⟩, h⟩
      exact ⟨⟨d, e⟩, (ho j (nv e fun z => by cases z)).trans h⟩
  have os : ∀ p, OwnS env σ2 p ↔ OwnS env σ1 p := fun p => exists_congr fun j => io j p
  have av : ∀ a, AvE B env σ2 a → AvE B env σ1 a := fun a => Or.imp id (os a).mp
  refine ⟨⟨by rw [hl]; exact R.len, fun j d e => ?_, fun j d e => ?_, fun a b q h1 h2 => R.inj a b q ((io a q).mp h1) ((io b q).mp h2), R.trk, R.fr, fun j q h => R.fo j q ((io j q).mp h), fun q h => (io _ _).mpr (R.io q h), R.dom⟩, os⟩
  · obtain ⟨v, a, b⟩ := R.sh j d e
    exact ⟨v, (ho j (nv e fun z => by cases z)).trans a, b.mono av⟩
  · obtain ⟨p, a, n, b⟩ := R.own j d e
    exact ⟨p, (ho j (nv e fun z => by cases z)).trans a, n, b.keep av (A := fun _ => False) (fun _ z => z.elim) (Kep.refl _ _) (fun z => z)⟩
/-- a temporary object is changed -/
theorem REnv.tempPut {p : Addr} {o : HO} (R : REnv c B env σ H) (hp : B p) (hm : ∃ u, H p = some u) (h0 : c.H0 p = none) : REnv c B env σ (L2.upd H p o) ∧ Dom H (L2.upd H p o) ∧ Kep (fun a => a = p) H (L2.upd H p o) := by
  have k : Kep (fun a => a = p) H (L2.upd H p o) := Kep.put rfl
  have dm : Dom H (L2.upd H p o) := fun a u h => by
    by_cases ha : a = p
    · rw [ha, upd_same]; exact ⟨_, rfl⟩
    · rw [upd_ne ha]; exact ⟨_, h⟩
  have hA : ∀ a, a = p → AvE B env σ a := fun a z => by rw [z]; exact .inl hp
  refine ⟨⟨R.len, fun j d e => ?_, fun j d e => ?_, R.inj, fun q h => let ⟨u, e⟩ := R.trk q h; dm q u e, fun a u h n t => ?_, R.fo, R.io, fun a u h => let ⟨o', e⟩ := R.dom a u h; dm a o' e⟩, dm, k⟩
  · obtain ⟨v, a, b⟩ := R.sh j d e
    exact ⟨v, a, b.keep (fun _ z => z) (A := fun a => a = p) hA k⟩
  · obtain ⟨q, a, n, b⟩ := R.own j d e
    exact ⟨q, a, n, b.keep (fun _ z => z) (A := fun a => a = p) hA k fun z => n (by rw [z]; exact hp)⟩
  · have ne : a ≠ p := fun z => by rw [z, h0] at h; cases h
    rw [upd_ne ne]
    exact R.fr a u h n t
end
def lcD (b : MG) (t : MT) (elt : ME) (vs : List Nat) : List D → List D → DEnv → DRes (List D)
  | [], acc, e => .ok acc e
  | d :: ds, acc, e => match b d e with
    | none => .stuck
    | some e1 => match t e1 with
      | .ok true e2 => match elt e2 with
        | .ok x e3 => match frees [x] with
          | some [y] => if acc.length < sizeLine then lcD b t elt vs ds (acc ++ [y]) (wipeE e3 vs) else .stuck
          | _ => .stuck
        | _ => .stuck
      | .ok false e2 => lcD b t elt vs ds acc (wipeE e2 vs)
      | _ => .stuck
def mLc (mi : MI) (b : MG) (t : MT) (elt : ME) (vs : List Nat) : ME := fun env => (mi env).bind fun ds e => if noOwn e vs = true then match lcD b t elt vs ds [] (wipeE e vs) with
  | .ok acc e' => .ok (.new (.lst acc)) e'
  | _ => .stuck else .stuck
abbrev WF : WX := fun _ _ _ _ => False
theorem ref_lc {c : DCtx} {W : WX} {wi : TI} {g : TG} {tt : TT} {te : TE} {mi : MI} {b : MG} {t : MT} {elt : ME} {vs sl : List Nat} (hi : RefI c W wi mi) (hg : RefG c sl g b) (hsl : ∀ j ∈ sl, j ∈ vs) (ht : RefT c WF tt t) (he : Ref c WF te elt) :
    Ref c W (tLc wi g tt te vs) (mLc mi b t elt vs) := by
  intro B env σ H Qk R0 goal
  refine hi B env σ H _ R0 ?_
  have goal' : Goal c W B env σ H Qk ((mi env).bind fun ds e => if noOwn e vs = true then match lcD b t elt vs ds [] (wipeE e vs) with | .ok acc e' => .ok (.new (.lst acc)) e' | _ => .stuck else .stuck) := goal
  cases hm : mi env with
  | stuck => rw [hm] at goal'; exact goal'
  | exc x e => rw [hm] at goal'; exact fun cls dx H' R X P => goal' cls dx H' R X P
  | ok ds e1 =>
    rw [hm] at goal'
    intro J H1 B1 hB R1 P1 jok A0 hD
    have gl : Goal c W B env σ H Qk (if noOwn e1 vs = true then match lcD b t elt vs ds [] (wipeE e1 vs) with | .ok acc e' => .ok (.new (.lst acc)) e' | _ => .stuck else .stuck) := goal'
    by_cases hno : noOwn e1 vs = true
    · rw [if_pos hno] at gl
      have hn1 : ∀ j ∈ vs, ∀ d : D, e1[j]? ≠ some (DSlot.own d) := fun j hj d => noOwn_at hno hj
      have hw : ∀ j, j ∉ vs → (L2.wipe σ vs)[j]? = σ[j]? := fun j hj => wipe_out hj
      obtain ⟨Rf, osf⟩ := R1.forget hn1
      obtain ⟨Rw, osw⟩ := Rf.agree (σ2 := L2.wipe σ vs) (wipe_length σ vs) hw (fun j hj x z => wipeE_in e1 hj z)
      let B2 : Addr → Prop := fun a => B1 a ∨ a = A0
      have R2 : REnv c B2 (wipeE e1 vs) (L2.wipe σ vs) (L2.upd H1 A0 (.lst [])) := Rw.more hD
      have h0D : c.H0 A0 = none := Rw.no0 hD
      have nA : ¬ OwnS e1 σ A0 := fun z => R1.free hD (.inr z)
      -- what holds ahead of each turn
      refine ⟨fun i m H' => m + i = ds.length ∧ ∃ e' acc us, REnv c B2 e' (L2.wipe σ vs) H' ∧ (∀ j : Nat, (∃ d : D, e'[j]? = some (DSlot.own d)) ↔ (∃ d : D, (wipeE e1 vs)[j]? = some (DSlot.own d))) ∧ (∀ j ∈ vs, ∀ x, e'[j]? = some x → x = .no) ∧
          Kep (OwnS e1 σ) H1 H' ∧ Dom H1 H' ∧ H' A0 = some (.lst us) ∧ RDs c.K c.mg (AvE B2 e' (L2.wipe σ vs)) H' us acc ∧
          Goal c W B env σ H Qk (match lcD b t elt vs (ds.drop i) acc e' with | .ok acc e' => .ok (.new (.lst acc)) e' | _ => .stuck), ⟨ds.length, rfl, wipeE e1 vs, [], [], R2, fun _ => Iff.rfl, fun j hj x z => wipeE_in e1 hj z, Kep.new hD, dom_new hD, upd_same, .nil, gl⟩, ?_⟩
      rintro i m H' ⟨hmi, e', acc, us, R3, own3, no3, k3, d3, hD3, hacc, g3⟩
      have ownE : ∀ p, OwnS e' (L2.wipe σ vs) p ↔ OwnS e1 σ p := fun p => ((exists_congr fun j => and_congr (own3 j) Iff.rfl).trans (osw p)).trans (osf p)
      have P13 : Post e1 σ H1 e' H' := ⟨fun j => (own3 j).trans ⟨fun ⟨d, z⟩ => by
          by_cases hj : j ∈ vs
          · cases wipeE_in e1 hj z
          · rw [wipeE_out e1 hj] at z; exact ⟨d, z⟩, fun ⟨d, z⟩ => by
          by_cases hj : j ∈ vs
          · exact (hn1 j hj d z).elim
          · exact ⟨d, by rw [wipeE_out e1 hj]; exact z⟩⟩, k3, d3⟩
      cases m with
      | zero =>
        have hi' : i = ds.length := by omega
        rw [hi', List.drop_length] at g3
        refine .inl ⟨by rw [hi']; exact jok.stop H' k3 d3, ?_⟩
        obtain ⟨R4, os4⟩ := R3.agree (σ2 := σ) (wipe_length σ vs).symm (fun j hj => (hw j hj).symm) no3
        have av4 : ∀ a, AvE B2 e' σ a → AvE B2 e' (L2.wipe σ vs) a := fun a => Or.imp id (os4 a).mp
        refine g3 (.ref A0) H' (R4.weak fun a z => z.imp (hB a) id) ⟨A0, rfl, fun z => ?_, h0D, us, hD3, (hacc.mono fun a z => ?_)⟩ (P1.trans P13) (NewAt.back (H1 := H1) (x := .new (.lst acc)) (v := .ref A0) hD P1.dom)
        · rcases z with z | z
          · exact R1.free hD (.inl (hB _ z))
          · exact nA ((ownE A0).mp ((os4 A0).mp z))
        · refine av4 a ?_
          rcases z with (z | z) | z
          · exact .inl (.inl (hB _ z))
          · exact .inl (.inr z)
          · exact .inr z
      | succ m =>
        have hl : i < ds.length := by omega
        obtain ⟨d, hd⟩ : ∃ d, ds[i]? = some d := ⟨ds[i], List.getElem?_eq_getElem hl⟩
        have hdrop : ds.drop i = d :: ds.drop (i + 1) := by
          rw [List.drop_eq_getElem_cons hl]
          have := List.getElem?_eq_getElem hl
          rw [hd] at this
          cases this
          rfl
        rw [hdrop] at g3
        obtain ⟨go, yl⟩ := jok.go H' i d (AvE B2 e' (L2.wipe σ vs)) k3 d3 (fun a z => by
          rcases z with (z | z) | z
          · exact .inl (.inl z)
          · exact .inr (by rw [z]; exact hD)
          · exact .inl (.inr ((ownE a).mp z))) (fun a z => R3.trkA z) hd
        refine .inr ⟨go, fun H2 => m + (i + 1) = ds.length ∧ ∃ e' acc us, REnv c B2 e' (L2.wipe σ vs) H2 ∧ (∀ j : Nat, (∃ d : D, e'[j]? = some (DSlot.own d)) ↔ (∃ d : D, (wipeE e1 vs)[j]? = some (DSlot.own d))) ∧ (∀ j ∈ vs, ∀ x, e'[j]? = some x → x = .no) ∧
          Kep (OwnS e1 σ) H1 H2 ∧ Dom H1 H2 ∧ H2 A0 = some (.lst us) ∧ RDs c.K c.mg (AvE B2 e' (L2.wipe σ vs)) H2 us acc ∧
          Goal c W B env σ H Qk (match lcD b t elt vs (ds.drop (i + 1)) acc e' with | .ok acc e' => .ok (.new (.lst acc)) e' | _ => .stuck), fun H2 w => ⟨m, Nat.lt_succ_self _, w⟩, fun x H5 hy => ?_⟩
        obtain ⟨k5, d5, r5⟩ := yl x H5 hy
        have R5 : REnv c B2 e' (L2.wipe σ vs) H5 := R3.keep k5 d5
        have hD5 : H5 A0 = some (.lst us) := k5 A0 _ hD3 (fun z => z) nt_lst
        have hacc5 : RDs c.K c.mg (AvE B2 e' (L2.wipe σ vs)) H5 us acc := hacc.keep (fun _ z => z) (A := fun _ => False) (fun _ z => z.elim) k5
        refine hg B2 e' (L2.wipe σ vs) H5 x d _ R5 r5 ?_
        cases hbd : b d e' with
        | none => unfold lcD at g3; rw [hbd] at g3; exact g3
        | some e6 =>
          unfold lcD at g3
          rw [hbd] at g3
          intro σ6 R6 G6
          have G6o : ∀ j, j ∉ vs → σ6[j]? = (L2.wipe σ vs)[j]? ∧ e6[j]? = e'[j]? := fun j hj => G6.out j fun z => hj (hsl j z)
          -- in the block's slots stands nothing of one's own
          have no6 : ∀ j ∈ vs, ∀ y : D, e6[j]? ≠ some (DSlot.own y) := fun j hj y z => by
            obtain ⟨p, hp, _, _⟩ := R6.own j y z
            obtain ⟨j', ⟨y', z1⟩, z2⟩ := G6.own p ⟨j, ⟨y, z⟩, hp⟩
            have hj' : j' ∉ vs := fun q => by cases no3 j' q _ z1
            have z3 := G6o j' hj'
            have := R6.inj j j' p ⟨⟨y, z⟩, hp⟩ ⟨⟨y', z3.2.trans z1⟩, z3.1.trans z2⟩
            exact hj' (this ▸ hj)
          have own6 : ∀ j : Nat, (∃ d : D, e6[j]? = some (DSlot.own d)) ↔ (∃ d : D, e'[j]? = some (DSlot.own d)) := fun j => by
            by_cases hj : j ∈ vs
            · exact ⟨fun ⟨y, z⟩ => (no6 j hj y z).elim, fun ⟨y, z⟩ => (by cases no3 j hj _ z)⟩
            · rw [(G6o j hj).2]
          have wipes : L2.wipe σ6 vs = L2.wipe σ vs := by
            refine wipe_ext (G6.len.trans (wipe_length σ vs)) fun j hj => ?_
            rw [(G6o j hj).1, hw j hj]
          -- the turn's end
          have fin : ∀ (e7 : DEnv) (H7 : Hp) (us7 : List V) (acc7 : List D), REnv c B2 e7 σ6 H7 → (∀ j : Nat, (∃ d : D, e7[j]? = some (DSlot.own d)) ↔ (∃ d : D, e6[j]? = some (DSlot.own d))) → Kep (OwnS e1 σ) H1 H7 → Dom H1 H7 → H7 A0 = some (.lst us7) → RDs c.K c.mg (AvE B2 e7 σ6) H7 us7 acc7 →
              Goal c W B env σ H Qk (match lcD b t elt vs (ds.drop (i + 1)) acc7 (wipeE e7 vs) with | .ok acc e' => .ok (.new (.lst acc)) e' | _ => .stuck) →
              m + (i + 1) = ds.length ∧ ∃ e' acc us, REnv c B2 e' (L2.wipe σ vs) H7 ∧ (∀ j : Nat, (∃ d : D, e'[j]? = some (DSlot.own d)) ↔ (∃ d : D, (wipeE e1 vs)[j]? = some (DSlot.own d))) ∧ (∀ j ∈ vs, ∀ x, e'[j]? = some x → x = .no) ∧
                Kep (OwnS e1 σ) H1 H7 ∧ Dom H1 H7 ∧ H7 A0 = some (.lst us) ∧ RDs c.K c.mg (AvE B2 e' (L2.wipe σ vs)) H7 us acc ∧
                Goal c W B env σ H Qk (match lcD b t elt vs (ds.drop (i + 1)) acc e' with | .ok acc e' => .ok (.new (.lst acc)) e' | _ => .stuck) := by
            intro e7 H7 us7 acc7 R7 own7 k7 d7 hD7 hacc7 g7
            have no7 : ∀ j ∈ vs, ∀ y : D, e7[j]? ≠ some (DSlot.own y) := fun j hj y z => by
              obtain ⟨y', z'⟩ := (own7 j).mp ⟨y, z⟩
              exact no6 j hj y' z'
            obtain ⟨R8, os8⟩ := R7.forget no7
            obtain ⟨R9, os9⟩ := R8.agree (σ2 := L2.wipe σ vs) ((wipe_length σ vs).trans ((wipe_length σ vs).symm.trans G6.len.symm)) (fun j hj => (G6o j hj).1.symm) (fun j hj x z => wipeE_in e7 hj z)
            refine ⟨by omega, wipeE e7 vs, acc7, us7, R9, fun j => ?_, fun j hj x z => wipeE_in e7 hj z, k7, d7, hD7, hacc7.mono fun a z => z.imp id fun z => (os8 a).mp ((os9 a).mp z), g7⟩
            refine Iff.trans ?_ (((own7 j).trans (own6 j)).trans (own3 j))
            by_cases hj : j ∈ vs
            · exact ⟨fun ⟨y, z⟩ => (by cases wipeE_in e7 hj z), fun ⟨y, z⟩ => (no7 j hj y z).elim⟩
            · rw [wipeE_out e7 hj]
          have k15 : Kep (OwnS e1 σ) H1 H5 := k3.trans (k5.mono fun _ z => z.elim)
          have d15 : Dom H1 H5 := fun a o h => let ⟨o', q⟩ := d3 a o h; d5 a o' q
          have own61 : ∀ p, OwnS e6 σ6 p → OwnS e1 σ p := fun p z => (ownE p).mp (G6.own p z)
          refine ⟨wipes, ht B2 e6 σ6 H5 _ R6 ?_⟩
          dsimp only at g3
          cases hte : t e6 with
          | stuck => rw [hte] at g3; exact g3
          | exc x e => rw [hte] at g3; exact (show False from g3).elim
          | ok k e7 =>
            rw [hte] at g3
            intro H7 R7 P7
            have k17 : Kep (OwnS e1 σ) H1 H7 := k15.trans (P7.keep.mono own61)
            have d17 : Dom H1 H7 := fun a o h => let ⟨o', q⟩ := d15 a o h; P7.dom a o' q
            have hD7 : H7 A0 = some (.lst us) := P7.keep A0 _ hD5 (fun z => nA (own61 A0 z)) nt_lst
            have hacc7 : RDs c.K c.mg (AvE B2 e7 σ6) H7 us acc := hacc5.keep (fun a z => by
              rcases (P7.av a).mp z with z | z
              · exact .inl z
              · exact .inr (G6.own a z)) (A := OwnS e6 σ6) (fun a z => .inr (G6.own a z)) P7.keep
            cases k with
            | false => exact iteF (fin e7 H7 us acc R7 P7.own k17 d17 hD7 hacc7 g3)
            | true =>
              refine iteT (he B2 e7 σ6 H7 _ R7 ?_)
              dsimp only at g3
              cases hel : elt e7 with
              | stuck => rw [hel] at g3; exact g3
              | exc x e => rw [hel] at g3; exact (show False from g3).elim
              | ok y e8 =>
                rw [hel] at g3
                intro v H8 R8 V8 P8 _
                dsimp only at g3
                cases hf : frees [y] with
                | none => rw [hf] at g3; exact (show False from g3).elim
                | some l =>
                  cases l with
                  | nil => rw [hf] at g3; exact (show False from g3).elim
                  | cons y' l =>
                    cases l with
                    | cons _ _ => rw [hf] at g3; exact (show False from g3).elim
                    | nil =>
                      rw [hf] at g3
                      dsimp only at g3
                      by_cases hsz : acc.length < sizeLine
                      · rw [if_pos hsz] at g3
                        have own78 : ∀ p, OwnS e7 σ6 p → OwnS e1 σ p := fun p z => own61 p ((P7.ownS p).mp z)
                        have k18 : Kep (OwnS e1 σ) H1 H8 := k17.trans (P8.keep.mono own78)
                        have d18 : Dom H1 H8 := fun a o h => let ⟨o', q⟩ := d17 a o h; P8.dom a o' q
                        have hD8 : H8 A0 = some (.lst us) := P8.keep A0 _ hD7 (fun z => nA (own78 A0 z)) nt_lst
                        have hacc8 : RDs c.K c.mg (AvE B2 e8 σ6) H8 us acc := hacc7.keep (fun a z => (P8.av a).mp z) (A := OwnS e7 σ6) (fun a z => .inr z) P8.keep
                        have hv := VR.free V8 hf (Bt := B2) (fun _ z => z)
                        have R8' : REnv c B2 e8 σ6 H8 := R8.weak addB_sub
                        obtain ⟨R9, d9, k9⟩ := R8'.tempPut (p := A0) (o := .lst (us ++ [v])) (.inr rfl) ⟨_, hD8⟩ h0D
                        refine ⟨us, hD8, by rw [hacc8.length]; exact hsz, ?_⟩
                        have hAv : AvE B2 e8 σ6 A0 := .inl (.inr rfl)
                        refine fin e8 _ (us ++ [v]) (acc ++ [y']) R9 (fun j => (P8.own j).trans (P7.own j)) (fun a o h n t => ?_) (fun a o h => let ⟨o', q⟩ := d18 a o h; d9 a o' q) upd_same (RDs.put (hacc8.append (.cons hv .nil)) hAv) g3
                        have ne : a ≠ A0 := fun z => by rw [z, hD] at h; cases h
                        rw [upd_ne ne]
                        exact k18 a o h n t
                      · rw [if_neg hsz] at g3; exact (show False from g3).elim
    · rw [if_neg hno] at gl; exact gl.elim
end Q

set_option linter.all false
set_option maxRecDepth 100000
set_option maxHeartbeats 4000000
namespace Q
open PySem PySem.Spec PyProof.Rows L2
section
variable {X : Cx} {c : DCtx} {W : WX} {pos : Pos} {a b e : Expr} {es : List Expr} {ma mb m : ME} {mt mu : MT}
/-! ### the rules, for a text -/
theorem de_var (i : Nat) {x : Str} (hN : X.N[i]? = some x := by rfl) (hv : Vis X.env.scope x := by first | exact Or.inl rfl | exact Or.inr (Or.inl rfl) | exact Or.inr (Or.inr rfl)) (hd : (x == ("__debug__" : Str)) = false := by decide) (hcd : (x == ("__classdict__" : Str)) = false := by decide) :
    DE X c W (.Name x pos) (mVar i) := ⟨_, pe_var hN hv hd hcd, ref_var i⟩
theorem de_int {i : Int} {j} : DE X c W (.Constant (.int i) j pos) (mC (.int i)) := ⟨_, pe_int, ref_int⟩
theorem de_bl {k : Bool} {j} : DE X c W (.Constant (.bool k) j pos) (mC (.bl k)) := ⟨_, pe_bl, ref_bl⟩
theorem de_non {j} : DE X c W (.Constant .none j pos) (mC .non) := ⟨_, pe_non, ref_non⟩
theorem de_str {x : Str} {j} : DE X c W (.Constant (.str x) j pos) (mC (.str x)) := ⟨_, pe_str, ref_str⟩
theorem de_globI {x : Str} {i : Int} {t : Tok} (hg : Gl X x) (hm : X.mg x = some (.int i t)) (hd : (x == ("__debug__" : Str)) = false := by decide) : DE X c W (.Name x pos) (mC (.int i)) := ⟨_, pe_glob (v := .int i) hg hm ⟨t, rfl⟩ hd, ref_int⟩
theorem de_globS {x : Str} {z : Str} {t : Tok} (hg : Gl X x) (hm : X.mg x = some (.str z t)) (hd : (x == ("__debug__" : Str)) = false := by decide) : DE X c W (.Name x pos) (mC (.str z)) := ⟨_, pe_glob (v := .str z) hg hm ⟨t, rfl⟩ hd, ref_str⟩
theorem de_op {op : Operator} {f : D → D → OR} (ho : OpR X (binaryOp op) (rD2 c f)) (ha : DE X c W a ma) (hb : DE X c W b mb) : DE X c W (.BinOp a op b pos) (mOp f ma mb) :=
  let ⟨_, p1, r1⟩ := ha.ex; let ⟨_, p2, r2⟩ := hb.ex; ⟨_, pe_op ho p1 p2, ref_op (op2_rD c f) r1 r2⟩
theorem de_cmp {op : CmpOp} {f : D → D → OR} (ho : OpR X (compareOp op) (rD2 c f)) (hm : behindInMarks op b = false) (ha : DE X c W a ma) (hb : DE X c W b mb) : DE X c W (.Compare a [op] [b] pos) (mOp f ma mb) :=
  let ⟨_, p1, r1⟩ := ha.ex; let ⟨_, p2, r2⟩ := hb.ex; ⟨_, pe_cmpR ho p1 p2 hm, ref_op (op2_rD c f) r1 r2⟩
theorem dt_cmp {op : CmpOp} {f : D → D → OR} (ho : OpR X (compareOp op) (rD2 c f)) (hm : behindInMarks op b = false) (ha : DE X c W a ma) (hb : DE X c W b mb) : DT X c W (.Compare a [op] [b] pos) (mTest (mOp f ma mb)) :=
  let ⟨_, p1, r1⟩ := ha.ex; let ⟨_, p2, r2⟩ := hb.ex; ⟨_, pt_cmpR ho p1 p2 hm, ref_test (ref_op (op2_rD c f) r1 r2)⟩
theorem de_chain {op op' : CmpOp} {x : Expr} {f g : D → D → OR} {mx : ME} (ho : OpR X (compareOp op) (rD2 c f)) (ho' : OpR X (compareOp op') (rD2 c g)) (ha : DE X c W a ma) (hb : DE X c W b mb) (hx : DE X c W x mx)
    (hm : lastMarks [op, op'] [b, x] = false := by with_unfolding_all rfl) : DE X c W (.Compare a [op, op'] [b, x] pos) (mChain f g ma mb mx) :=
  let ⟨_, p1, r1⟩ := ha.ex; let ⟨_, p2, r2⟩ := hb.ex; let ⟨_, p3, r3⟩ := hx.ex; ⟨_, pe_chain ho ho' p1 p2 p3 hm, ref_chain (op2_rD c f) (op2_rD c g) r1 r2 r3⟩
/-- an expression that gives True or False, as a test -/
theorem dt_val (h : DE X c W e m) (he : ∀ whole, isTrue e X.env whole = (do let v ← whole; standAt e.pos; holding [v] (truthy v)) := by intro _; rfl) : DT X c W e (mTest m) :=
  let ⟨_, p1, r1⟩ := h.ex; ⟨_, pt_val p1 he, ref_B r1⟩
theorem dt_not (h : DT X c W a mt) : DT X c W (.UnaryOp .Not a pos) (mNot mt) := let ⟨_, p1, r1⟩ := h.ex; ⟨_, pt_not p1, ref_not r1⟩
theorem dw_and1 (h : DT X c W a mt) : DW X c W (.BoolOp .And [a] pos) mt := let ⟨_, p1, r1⟩ := h.ex; ⟨_, pw_and1 p1, r1⟩
theorem dw_or1 (h : DT X c W a mt) : DW X c W (.BoolOp .Or [a] pos) mt := let ⟨_, p1, r1⟩ := h.ex; ⟨_, pw_or1 p1, r1⟩
theorem dw_and {rest : List Expr} (h : DT X c W a mt) (h' : DW X c W (.BoolOp .And (b :: rest) pos) mu) : DW X c W (.BoolOp .And (a :: b :: rest) pos) (mAnd mt mu) := let ⟨_, p1, r1⟩ := h.ex; let ⟨_, p2, r2⟩ := h'.ex; ⟨_, pw_and p1 p2, ref_and r1 r2⟩
theorem dw_or {rest : List Expr} (h : DT X c W a mt) (h' : DW X c W (.BoolOp .Or (b :: rest) pos) mu) : DW X c W (.BoolOp .Or (a :: b :: rest) pos) (mOr mt mu) := let ⟨_, p1, r1⟩ := h.ex; let ⟨_, p2, r2⟩ := h'.ex; ⟨_, pw_or p1 p2, ref_or r1 r2⟩
theorem dt_w (h : DW X c W e mt) : DT X c W e mt := let ⟨_, p1, r1⟩ := h.ex; ⟨_, p1.pt, r1⟩
theorem de_one {op} (h : DE X c W a m) : DE X c W (.BoolOp op [a] pos) m := let ⟨_, p1, r1⟩ := h.ex; ⟨_, pe_one p1, r1⟩
theorem de_and {rest : List Expr} (h : DE X c W a ma) (h' : DE X c W (.BoolOp .And (b :: rest) pos) mb) : DE X c W (.BoolOp .And (a :: b :: rest) pos) (mAndV ma mb) := let ⟨_, p1, r1⟩ := h.ex; let ⟨_, p2, r2⟩ := h'.ex; ⟨_, pe_and p1 p2, ref_andV r1 r2⟩
theorem de_or {rest : List Expr} (h : DE X c W a ma) (h' : DE X c W (.BoolOp .Or (b :: rest) pos) mb) : DE X c W (.BoolOp .Or (a :: b :: rest) pos) (mOrV ma mb) := let ⟨_, p1, r1⟩ := h.ex; let ⟨_, p2, r2⟩ := h'.ex; ⟨_, pe_or p1 p2, ref_orV r1 r2⟩
theorem de_not (h : DE X c W a ma) : DE X c W (.UnaryOp .Not a pos) (mNotV ma) := let ⟨_, p1, r1⟩ := h.ex; ⟨_, pe_not p1, ref_notV r1⟩
theorem de_ifE {t : Expr} (h : DT X c W t mt) (ha : DE X c W a ma) (hb : DE X c W b mb) : DE X c W (.IfExp t a b pos) (mIfE mt ma mb) := let ⟨_, p0, r0⟩ := h.ex; let ⟨_, p1, r1⟩ := ha.ex; let ⟨_, p2, r2⟩ := hb.ex; ⟨_, pe_ifExp p0 p1 p2, ref_ifE r0 r1 r2⟩
theorem da_nil : DA X c W [] mNil := ⟨_, pa_nil, ref_nil⟩
theorem da_cons {mr : MA} (h : DE X c W e m) (hr : DA X c W es mr) (hs : starEach (e :: es) X.env = (false, eval e X.env) :: starEach es X.env := by rfl) : DA X c W (e :: es) (mCons m mr) := let ⟨_, p1, r1⟩ := h.ex; let ⟨_, p2, r2⟩ := hr.ex; ⟨_, pa_cons p1 p2 hs, ref_cons r1 r2⟩
theorem de_lst {mr : MA} (h : DA X c W es mr) : DE X c W (.List es pos) (mLst mr) := let ⟨_, p1, r1⟩ := h.ex; ⟨_, pe_lst p1, ref_lst r1⟩
theorem de_tup {mr : MA} {x1} (h : DA X c W es mr) : DE X c W (.Tuple es x1 pos) (mTup mr) := let ⟨_, p1, r1⟩ := h.ex; ⟨_, pe_tup p1, ref_tup r1⟩
theorem de_ix (hK : c.K = X.K) (ha : DE X c W a ma) (hb : DE X c W b mb) (hs : PlainIx b) : DE X c W (.Subscript a b pos) (mOp ixD ma mb) := let ⟨_, p1, r1⟩ := ha.ex; let ⟨_, p2, r2⟩ := hb.ex; ⟨_, pe_ix (ixr hK) p1 p2 hs, ref_op (op2_rD c ixD) r1 r2⟩
theorem de_callB {x : Str} {p : Pos} {id : String} {f : List D → OR} {mr : MA} (hc : CallR X (.builtin id) (rDN c f)) (hg : Gl X x) (hm : X.mg x = none) (hv : bootBuiltins x = some (.builtin id)) (ha : DA X c W (e :: es) mr)
    (hn : x ≠ "__name__" := by decide) (hdb : (x == ("__debug__" : Str)) = false := by decide) (he : starEach (e :: es) X.env = (false, eval e X.env) :: starEach es X.env := by rfl) (hpl : (backTo pos (starEach es X.env)).any (·.1) = false := by rfl) : DE X c W (.Call (.Name x p) (e :: es) [] pos) (mCall f mr) :=
  let ⟨_, p1, r1⟩ := ha.ex; ⟨_, pe_callB hc hg hm hv p1 hn hdb he hpl, ref_call (opN_rD c f) r1⟩
theorem de_callTy {x : Str} {p : Pos} {T : String} {f : List D → OR} {mr : MA} (hc : CallR X (.type T) (rDN c f)) (hg : Gl X x) (hm : X.mg x = none) (hv : bootBuiltins x = some (.type T)) (ha : DA X c W (e :: es) mr)
    (hn : x ≠ "__name__" := by decide) (hdb : (x == ("__debug__" : Str)) = false := by decide) (he : starEach (e :: es) X.env = (false, eval e X.env) :: starEach es X.env := by rfl) (hpl : (backTo pos (starEach es X.env)).any (·.1) = false := by rfl) : DE X c W (.Call (.Name x p) (e :: es) [] pos) (mCall f mr) :=
  let ⟨_, p1, r1⟩ := ha.ex; ⟨_, pe_callTy hc hg hm hv p1 hn hdb he hpl, ref_call (opN_rD c f) r1⟩
/-- a def of the module -/
theorem de_call {x : Str} {p : Pos} {k n : Nat} {f : Addr} {fd : FuncData} {ps : List Str} {F : List D → FRes} {mr : MA} (io : Option (Nat × Nat)) (G : FnG X.prog X.w X.K X.mg X.base k f fd ps (spD c.K c.mg (io.map (·.1)) n F)) (hr : Room k X.A) (hgu : X.A.guards = some []) (hg : Gl X x) (hm : X.mg x = some (.ref f)) (hk : PySem.W.keepIn X.K (.ref f) = true) (hb : Binds X.K fd ps []) (tk : Takes X W)
    (ha : DA X c W (e :: es) mr) (hdb : (x == ("__debug__" : Str)) = false := by decide) (he : starEach (e :: es) X.env = (false, eval e X.env) :: starEach es X.env := by rfl) (hpl : (backTo pos (starEach es X.env)).any (·.1) = false := by rfl) : DE X c W (.Call (.Name x p) (e :: es) [] pos) (mCallU F n io mr) :=
  let ⟨_, p1, r1⟩ := ha.ex; ⟨_, pe_callG G hr hgu hg hm hk hb tk p1 hdb he hpl, ref_callU r1⟩
theorem de_call0 {x : Str} {p : Pos} {k : Nat} {f : Addr} {fd : FuncData} {ps : List Str} {F : List D → FRes} (G : FnG X.prog X.w X.K X.mg X.base k f fd ps (spD c.K c.mg none 0 F)) (hr : Room k X.A) (hgu : X.A.guards = some []) (hg : Gl X x) (hm : X.mg x = some (.ref f)) (hk : PySem.W.keepIn X.K (.ref f) = true) (hb : Binds X.K fd ps []) (tk : Takes X W)
    (hdb : (x == ("__debug__" : Str)) = false := by decide) : DE X c W (.Call (.Name x p) [] [] pos) (mCallU F 0 none mNil) :=
  ⟨_, pe_callG0 G hr hgu hg hm hk hb tk hdb, ref_callU (io := none) ref_nil⟩
/-! a list that the slot i owns -/
theorem de_append (hK : c.K = X.K) (i : Nat) {x : Str} {p apos : Pos} {mr : MA} (ha : DA X c W (e :: es) mr) (hN : X.N[i]? = some x := by rfl) (hv : Vis X.env.scope x := by first | exact Or.inl rfl | exact Or.inr (Or.inl rfl) | exact Or.inr (Or.inr rfl))
    (hd : (x == ("__debug__" : Str)) = false := by decide) (hcd : (x == ("__classdict__" : Str)) = false := by decide) (hbase : attributeBase (.Name x p) "append" X.env (eval (.Name x p) X.env) = eval (.Name x p) X.env := by rfl)
    (hfew : ((backTo pos (starEach (e :: es) X.env)).all (fun x => !x.1) && (backToKw pos (keywordEach [] X.env)).all (fun x => x.1.isSome)
      && decide ((e :: es).length + ([] : List Keyword).length + (if ([] : List Keyword).isEmpty then 0 else 1) < 30)) = true := by rfl)
    (hline : (apos.endLine == pos.line) = true := by rfl) (hstar : starEach (e :: es) X.env = (false, eval e X.env) :: starEach es X.env := by rfl) (hplain : (backTo pos (starEach es X.env)).any (·.1) = false := by rfl) : DE X c W (.Call (.Attribute (.Name x p) "append" apos) (e :: es) [] pos) (mMeth "list" i appendD mr) :=
  let ⟨_, p1, r1⟩ := ha.ex
  ⟨_, pe_bm PySem.F.plainAttrs_list PySem.F.slot_list_append PySem.F.type_list_append mt_append (pe_var hN hv hd hcd) p1 hbase hfew hline hstar hplain, by rw [← hK]; exact ref_meth opm_append r1⟩
/-! ### statements -/
theorem ds_expr (h : DE X c W e m) (hs : swapsWith e none pos.line X.env = pure false := by rfl) : DS X c W (.Expr e pos) (mDrop m) := let ⟨_, p1, r1⟩ := h.ex; ⟨_, ps_expr p1 hs, refS_drop r1⟩
theorem ds_ret (h : DE X c W e m) : DS X c W (.Return (some e) pos) (mRet m) := let ⟨_, p1, r1⟩ := h.ex; ⟨_, ps_ret p1, refS_ret r1⟩
theorem ds_retN : DS X c W (.Return none pos) mRetN := ⟨_, ps_retN, refS_retN⟩
theorem ds_pass : DS X c W (.Pass pos) mNx := ⟨_, ps_pass, refS_nx⟩
theorem ds_break : DS X c W (.Break pos) mBk := ⟨_, ps_break, refS_bk⟩
theorem ds_continue : DS X c W (.Continue pos) mCt := ⟨_, ps_continue, refS_ct⟩
theorem ds_stuck {st : Stmt} : DS X c W st mStuck := ⟨_, ps_never, refS_stuck⟩
theorem ds_set (ow : Bool) (i : Nat) {x : Str} {p : Pos} (hN : X.N.Nodup) (hio : ∀ q ∈ c.io, q.1 ≠ i) (h : DE X c W e m) (hi : X.N[i]? = some x := by rfl) (hx : Loc X.env.scope x := by first | exact Or.inl rfl | exact Or.inr rfl) (hs : swapsWith e (some (.Name x p)) pos.line X.env = pure false := by rfl)
    (hf : X.fn x = true ∨ X.env.scope.names.lookup x = some .local := by first | exact .inl rfl | exact .inr rfl) : DS X c W (.Assign [.Name x p] e pos) (mSet ow i m) := let ⟨_, p1, r1⟩ := h.ex; ⟨_, ps_set hN hi hx p1 hs hf, refS_set r1 hio⟩
theorem ds_setIx (i : Nat) {x : Str} {p p' : Pos} {ix : Expr} {mi : ME} (h : DE X c W e m) (hi : DE X c W ix mi) (hN : X.N[i]? = some x := by rfl) (hv : Vis X.env.scope x := by first | exact Or.inl rfl | exact Or.inr (Or.inl rfl) | exact Or.inr (Or.inr rfl))
    (hd : (x == ("__debug__" : Str)) = false := by decide) (hcd : (x == ("__classdict__" : Str)) = false := by decide) (hs : swapsWithSole [.Subscript (.Name x p) ix p'] e pos.line X.env = pure false := by rfl) (hw : swappedStores [.Subscript (.Name x p) ix p'] e X.env = pure none := by rfl)
    (ha : ∀ v, assign (.Subscript (.Name x p) ix p') X.env v = (do
      let ov ← holding [v] (eval (.Name x p) X.env)
      let iv ← holding [v, ov] (eval ix X.env)
      standAt p'
      holding [v, ov, iv] (setItem ov iv v)
      release [v, ov, iv] []) := by intro _; rfl) (h1 : (assignEach [.Subscript (.Name x p) ix p'] X.env).map (·.2) = [assign (.Subscript (.Name x p) ix p') X.env] := by rfl) :
    DS X c W (.Assign [.Subscript (.Name x p) ix p'] e pos) (mSetIx i m mi) := let ⟨_, p1, r1⟩ := h.ex; let ⟨_, p2, r2⟩ := hi.ex; ⟨_, ps_asg p1 (pg_sub (pe_var hN hv hd hcd) p2 set_list ha) hs hw h1, refS_setIx r1 r2⟩
theorem ds_if {t : Expr} {s1 s2 : List Stmt} {m1 m2 : MS} (h : DT X c W t mt) (h1 : DSs X c W s1 m1) (h2 : DSs X c W s2 m2) : DS X c W (.If t s1 s2 pos) (mIf mt m1 m2) := let ⟨_, p0, r0⟩ := h.ex; let ⟨_, p1, r1⟩ := h1.ex; let ⟨_, p2, r2⟩ := h2.ex; ⟨_, ps_if p0 p1 p2, refS_if r0 r1 r2⟩
theorem dss_nil : DSs X c W [] mNx := ⟨_, pss_nil, refS_nx⟩
theorem dss_one {st : Stmt} {m : MS} (h : DS X c W st m) : DSs X c W [st] m := let ⟨_, p1, r1⟩ := h.ex; ⟨_, pss_one p1, r1⟩
theorem dss_cons {st : Stmt} {sts : List Stmt} {m n : MS} (h : DS X c W st m) (h' : DSs X c W sts n) : DSs X c W (st :: sts) (mSeq m n) := let ⟨_, p1, r1⟩ := h.ex; let ⟨_, p2, r2⟩ := h'.ex; ⟨_, pss_cons p1 p2, refS_seq r1 r2⟩
theorem dss_stuck {sts : List Stmt} : DSs X c W sts mStuck := ⟨_, pss_never, refS_stuck⟩
/-- ahead of a statement an owner lets go -/
theorem ds_free (i : Nat) {st : Stmt} {m : MS} (hio : ∀ q ∈ c.io, q.1 ≠ i) (h : DS X c W st m) : DS X c W st (mFree i m) := let ⟨_, p1, r1⟩ := h.ex; ⟨_, p1, refS_free r1 hio⟩
theorem dss_free (i : Nat) {st : List Stmt} {m : MS} (hio : ∀ q ∈ c.io, q.1 ≠ i) (h : DSs X c W st m) : DSs X c W st (mFree i m) := let ⟨_, p1, r1⟩ := h.ex; ⟨_, p1, refS_free r1 hio⟩
/-! ### walks -/
structure DI (X : Cx) (c : DCtx) (W : WX) (tg e : Expr) (m : MI) : Prop where
  ex : ∃ wi, PI X tg e wi ∧ RefI c W wi m
structure DG (X : Cx) (c : DCtx) (tg : Expr) (sl : List Nat) (b : MG) : Prop where
  ex : ∃ g, PG X tg g ∧ RefG c sl g b
structure DGs (X : Cx) (c : DCtx) (tgs : List Expr) (sl : List Nat) (b : List D → DEnv → Option DEnv) : Prop where
  ex : ∃ g, PGs X tgs g ∧ RefGs c sl g b
theorem di_any {tg : Expr} (hK : c.K = X.K) (h : DE X c W e m) : DI X c W tg e (mAny m) := let ⟨_, p1, r1⟩ := h.ex; ⟨_, pi_any p1, by rw [← hK]; exact ref_any r1⟩
theorem di_rng1 {tg : Expr} {p : Pos} {mr : MA} (hg : Gl X "range") (hm : X.mg "range" = none) (ha : DA X c W [a] mr) (hs : starEach [a] X.env = [(false, eval a X.env)] := by rfl) : DI X c W tg (.Call (.Name "range" p) [a] [] pos) (mRng1 mr) := let ⟨_, p1, r1⟩ := ha.ex; ⟨_, pi_range1 hg hm p1 hs, ref_rng1 r1⟩
theorem di_rng2 {tg : Expr} {p : Pos} {mr : MA} (hg : Gl X "range") (hm : X.mg "range" = none) (ha : DA X c W [a, b] mr) (hs : starEach [a, b] X.env = [(false, eval a X.env), (false, eval b X.env)] := by rfl) (hs2 : starEach [b] X.env = [(false, eval b X.env)] := by rfl) : DI X c W tg (.Call (.Name "range" p) [a, b] [] pos) (mRng2 mr) := let ⟨_, p1, r1⟩ := ha.ex; ⟨_, pi_range2 hg hm p1 hs hs2, ref_rng2 r1⟩
theorem dg_name (i : Nat) {x : Str} (hN : X.N.Nodup) (hio : ∀ q ∈ c.io, q.1 ≠ i) (hi : X.N[i]? = some x := by rfl) (hx : Loc X.env.scope x := by first | exact Or.inl rfl | exact Or.inr rfl) (hf : X.fn x = true ∨ X.env.scope.names.lookup x = some .local := by first | exact .inl rfl | exact .inr rfl) : DG X c (.Name x pos) [i] (bName i) := ⟨_, pg_name hN hi hx hf, refG_name hio⟩
theorem dgs_nil : DGs X c [] [] bNil := ⟨_, pgs_nil, refGs_nil⟩
theorem ds_for {tg iter : Expr} {body : List Stmt} {sl : List Nat} {g : MG} {mi : MI} {mb : MS} (hp : PassesOwn (model X.prog X.w) X.A X.env X.xe) (hc : X.calm = true) (hi : DI X c W tg iter mi) (hg : DG X c tg sl g) (hb : DSs X c W body mb) (hs : ∀ x, foldedSetIterable iter X.env x = pure x := by intro _; rfl) :
    DS X c W (.For tg iter body [] pos) (mFor mi g mb) := let ⟨_, p1, r1⟩ := hi.ex; let ⟨_, p2, r2⟩ := hg.ex; let ⟨_, p3, r3⟩ := hb.ex; ⟨_, ps_for hp hc p1 p2 p3 hs, refS_for r1 r2 r3⟩
/-- what holds in the block of a comprehension -/
structure DB (X : Cx) (c : DCtx) (scope : Scope) (tg elt : Expr) (ifs : List Expr) (sl : List Nat) (g : MG) (t : MT) (m : ME) : Prop where
  ex : ∃ gg tt te, (∀ (s : Shared) (H : Hp) (C : Addr) (cl : List (Str × Addr)) (fp : List Addr), PG (X.blk s H scope (compEnvC scope cl C X.env) fp) tg gg) ∧ (∀ (s : Shared) (H : Hp) (C : Addr) (cl : List (Str × Addr)) (fp : List Addr), PTs (X.blk s H scope (compEnvC scope cl C X.env) fp) ifs tt) ∧
    (∀ (s : Shared) (H : Hp) (C : Addr) (cl : List (Str × Addr)) (fp : List Addr), PE (X.blk s H scope (compEnvC scope cl C X.env) fp) elt te) ∧ RefG c sl gg g ∧ RefT c WF tt t ∧ Ref c WF te m
end
end Q

set_option linter.all false
set_option maxRecDepth 100000
set_option maxHeartbeats 4000000
namespace Q
open PySem PySem.Spec PyProof.Rows L2
theorem bt_len : bootBuiltins "len" = some (.builtin "len") := by decide +kernel
theorem bt_abs : bootBuiltins "abs" = some (.builtin "abs") := by decide +kernel
theorem bt_max : bootBuiltins "max" = some (.builtin "max") := by decide +kernel
theorem bt_min : bootBuiltins "min" = some (.builtin "min") := by decide +kernel
theorem bt_repr : bootBuiltins "repr" = some (.builtin "repr") := by decide +kernel
theorem bt_isi : bootBuiltins "isinstance" = some (.builtin "isinstance") := by decide +kernel
theorem bt_int : bootBuiltins "int" = some (.type "int") := by decide +kernel
theorem bt_str : bootBuiltins "str" = some (.type "str") := by decide +kernel
/-! ### two new objects at a time -/
section
variable {fs ex : List Addr} {H : Hp} {h h' : Heap} {a b : Addr} {o u : HO}
theorem un_two (k : ∀ x v, h.get? x = some v → h'.get? x = some v) (ha : h.get? a = none) (hb : h.get? b = none) (na : H a = none) (nb : H b = none) : Un fs ex H (L2.upd (L2.upd H a o) b u) h h' where
  keep := fun x v q _ _ _ => k x v q
  slot := fun x v q _ _ _ => ⟨v.slots, k x v q⟩
  free := fun x v q n _ => by
    rw [upd_ne (fun z => by rw [z, hb] at q; cases q), upd_ne (fun z => by rw [z, ha] at q; cases q)]
    exact n
  there := fun x v q _ => ⟨v, k x v q⟩
  tups := fun x xs q => by rw [upd_ne (ne_of_none q nb), upd_ne (ne_of_none q na)]; exact q
  frzs := fun x v xs q => by rw [upd_ne (ne_of_none q nb), upd_ne (ne_of_none q na)]; exact q
  tbls := fun x ps q => ⟨#[], by rw [upd_ne (ne_of_none q nb), upd_ne (ne_of_none q na), q]; simp⟩
theorem hok_two {P : Program} {w : World} (x : HOk P w H h) (k : ∀ x v, h.get? x = some v → h'.get? x = some v) (na : H a = none) (nb : H b = none) (ne : a ≠ b)
    (oa : ObjOk P w (L2.upd (L2.upd H a o) b u) h' a o) (ob : ObjOk P w (L2.upd (L2.upd H a o) b u) h' b u) : HOk P w (L2.upd (L2.upd H a o) b u) h' := fun y v e => by
  by_cases hb : y = b
  · subst hb
    rw [upd_same] at e; cases e
    exact ob
  · rw [upd_ne hb] at e
    by_cases ha : y = a
    · subst ha
      rw [upd_same] at e; cases e
      exact oa
    · rw [upd_ne ha] at e
      exact (x y v e).stay (fun c v _ q => k c v q) (fun c q => by rw [upd_ne (ne_of_none q nb), upd_ne (ne_of_none q na)]; exact q) fun c xs q => by rw [upd_ne (ne_of_none q nb), upd_ne (ne_of_none q na)]; exact q
theorem inv_two {X : Cx} {pins : List (Addr × Obj)} {σ : L2.St} {s : Shared} {t' : Nat} (I : Inv X pins σ H s) (k : ∀ x v, s.heap.get? x = some v → h'.get? x = some v) (ha : s.heap.get? a = none) (hb : s.heap.get? b = none) (ne : a ≠ b)
    (oa : ObjOk X.prog X.w (L2.upd (L2.upd H a o) b u) h' a o) (ob : ObjOk X.prog X.w (L2.upd (L2.upd H a o) b u) h' b u) : Inv X pins σ (L2.upd (L2.upd H a o) b u) { s with heap := h', toks := t' } :=
  I.un (un_two k ha hb (I.hok.gone ha) (I.hok.gone hb)) (hok_two I.hok k (I.hok.gone ha) (I.hok.gone hb) ne oa ob)
theorem exq_ok {P : Program} {w : World} {C t : Addr} {dx : Option Addr} (e : h.get? a = some (PySem.W.excObj C t dx .none)) : ObjOk P w H h a (exq a C dx t) := ⟨e, ⟨_, e⟩, fun _ _ q k => k _ q⟩
theorem exq_at {P : Program} {w : World} {C t : Addr} {dx : Option Addr} (x : HOk P w H h) (e : H a = some (exq a C dx t)) : h.get? a = some (PySem.W.excObj C t dx .none) := (x a _ e).1
end
/-! ### an own exception class without an __init__ of its own, called with a text -/
def mExc0 (n : Str) (ma : MA) : ME := fun env => (ma env).bind fun xs e => match views e xs with
  | some [.str m] => .ok (.sh (.exc n (some m) [])) e
  | _ => .stuck
def tExc0 (C : Addr) (ta : TA) : TE := fun σ H Q => ta σ H fun vs H1 => ∃ m, vs = [.str m] ∧ ∀ a t, H1 a = none → H1 t = none → t ≠ a → Q (.ref a) (L2.upd (L2.upd H1 t (.tup [.str m])) a (exq a C none t))
/-- what is asked of such a class -/
structure Ex0 (K : PySem.W.Frag) (B newId initId : String) (bmB : List Value) (C : Addr) : Prop where
  i : PySem.W.excInitIn K C bmB newId = true
  f : PySem.W.findIn K (.ref C) "__init__" = some (some (.builtin initId))
  k : PySem.W.keepIn K (.ref C) = true
section
variable {X : Cx} {c : DCtx} {W : WX} {pos : Pos} {e : Expr} {es : List Expr} {ta : TA} {ma : MA}
theorem pe_exc0 {C : Addr} {B newId initId : String} {bmB : List Value} {x : Str} {p : Pos} (F : ExcBaseFacts B newId initId bmB) (q : Ex0 X.K B newId initId bmB C) (gC : X.mg x = some (.ref C)) (hg : Gl X x) (ha : PA X [e] ta)
    (hs : starEach [e] X.env = (false, eval e X.env) :: starEach [] X.env := by rfl) (hdb : (x == ("__debug__" : Str)) = false := by decide) : PE X (.Call (.Name x p) [e] [] pos) (tExc0 C ta) := by
  refine ⟨fun pins s σ H Q I h => ?_⟩
  refine wpAny_Call_Name_kw (ld_glob I hg gC ?_ hdb)
  refine PySem.W.callWith_K (h₀ := X.base) I.ok.mod.kin q.k (thn (ha.run pos pins s σ H _ I h) fun us s1 hh => ?_) hs (by rfl)
  obtain ⟨vs, H1, I1, r1, m, ev, g⟩ := hh
  subst ev
  refine ⟨I1.kIn, ?_⟩
  cases r1 with
  | cons ru rn =>
    rename_i u us'
    cases rn
    obtain ⟨tk, rfl⟩ := ru
    show wpAny _ _ (call (.ref C) [.str m tk]) _ _ _
    obtain ⟨nm, N', qn, bs, bm, hdct, sn, sub, ab, col, dd, k0, k1, k2, k3, k5, hC, hT⟩ := PySem.W.excInit_of I1.kIn q.i
    have hi' := PySem.W.looks_findIn (M := model X.prog X.w) I1.kIn q.f
    have fr : ∀ n, s1.heap.get? (s1.heap.objs.size + n) = none := fun n => Heap.get?_none_of_le (Nat.le_add_right _ _)
    have fr1 := fr 1
    have fr2 := fr 2
    obtain ⟨hh, gg, d, tk', os⟩ := s1
    refine PySem.W.call_B F hT hC hi' (by show 1 ≤ sizeLine; rw [sizeLine_eq]; omega) fun h' k he ht => ?_
    have ne : hh.objs.size + 2 ≠ hh.objs.size + 1 := Nat.ne_of_gt (Nat.lt_succ_self _)
    have n1 := I1.hok.gone fr1
    have n2 := I1.hok.gone fr2
    refine ⟨.ref (hh.objs.size + 1), _, inv_two (t' := tk') I1 k fr2 fr1 ne ?_ (exq_ok he), rfl, g _ _ n1 n2 ne⟩
    exact ⟨by show 1 ≤ sizeLine; rw [sizeLine_eq]; omega, [.str m tk], .cons ⟨tk, rfl⟩ .nil, ⟨_, ht, rfl, _, rfl⟩⟩
theorem ref_exc0 {C : Addr} {n : Str} (hn : c.mg n = some (.ref C)) (ha : RefA c W ta ma) : Ref c W (tExc0 C ta) (mExc0 n ma) := by
  intro B env σ H Q R h
  refine ha B env σ H _ R (Goal.nextA Post.refl (fun _ z => z) h fun xs e1 vs H1 R1 V1 P1 h1 => ?_)
  split at h1
  · rename_i m hv
    have T := V1.tops R1 (fun a z => z) (Bt := B) (fun a z => z) hv
    cases T with
    | cons t1 t2 =>
      cases t2
      cases t1
      refine ⟨m, rfl, fun a t na nt ne => ?_⟩
      have k : Kep (fun _ => False) H1 (L2.upd (L2.upd H1 t (.tup [.str m])) a (exq a C none t)) := Kep.trans (Kep.new nt) (Kep.new (by rw [upd_ne (Ne.symm ne)]; exact na))
      have dm : ∀ b o, H1 b = some o → ∃ o', L2.upd (L2.upd H1 t (.tup [.str m])) a (exq a C none t) b = some o' := fun b o e => ⟨o, by rw [upd_ne (ne_of_none e na), upd_ne (ne_of_none e nt)]; exact e⟩
      have fa : ¬ AvE B e1 σ a := fun z => R1.free na (AvE.mono (fun a z => addBs_sub a z) _ z)
      have ft : ¬ AvE B e1 σ t := fun z => R1.free nt (AvE.mono (fun a z => addBs_sub a z) _ z)
      exact h1 _ _ ((R1.weak fun a z => addBs_sub a z).keep k dm) (RD.exc0 hn upd_same fa (by rw [upd_ne ne, upd_same]) ft) (P1.trans (Post.kept k dm)) trivial
  · exact h1.elim
theorem de_exc0 {C : Addr} {B newId initId : String} {bmB : List Value} {x : Str} {p : Pos} (F : ExcBaseFacts B newId initId bmB) (q : Ex0 X.K B newId initId bmB C) (gC : X.mg x = some (.ref C)) (hmg : c.mg = X.mg) (hg : Gl X x) (ha : DA X c W [e] ma)
    (hs : starEach [e] X.env = (false, eval e X.env) :: starEach [] X.env := by rfl) (hdb : (x == ("__debug__" : Str)) = false := by decide) : DE X c W (.Call (.Name x p) [e] [] pos) (mExc0 x ma) :=
  let ⟨_, p1, r1⟩ := ha.ex; ⟨_, pe_exc0 F q gC hg p1 hs hdb, ref_exc0 (by rw [hmg]; exact gC) r1⟩
end
/-! ### what is asked of an exception class whose instances are looked at -/
structure ExF (K : PySem.W.Frag) (C : Addr) : Prop where
  cl : (PySem.W.clsIn K C).isSome = true
  ga : PySem.W.findIn K (.ref C) "__getattribute__" = some (some (.builtin "BaseException.__getattribute__"))
  gg : PySem.W.findIn K (.ref C) "__getattr__" = some none
  sb : PySem.W.subIn K (.ref C) (.type "BaseException") = some true
  ca : PySem.W.findIn K (.ref C) "__class__" = some (some (.builtin "object.__class__"))
  sp : PySem.W.specialIn K (.builtin "object.__class__") "__get__" = some (some (.builtin "getset_descriptor.__get__"))
  tk : PySem.W.takesIn K (.builtin "object.__class__") = some true
  mo : PySem.W.mroIn K C (.type "object") = some true
/-- a value's type, exceptions too -/
inductive TyE (K : PySem.W.Frag) (H : Hp) : V → Value → Prop where
  | base {x : V} {t : Value} (h : TyX K H x t) : TyE K H x t
  | exc0 {a C t : Addr} (F : ExF K C) (e : H a = some (exq a C none t)) : TyE K H (.ref a) (.ref C)
  | exc1 {a C t d : Addr} {fs : List (Str × V)} (F : ExF K C) (e : H a = some (exq a C (some d) t)) (e2 : H d = some (exd d fs)) : TyE K H (.ref a) (.ref C)
theorem exd_there {P : Program} {w : World} {H : Hp} {h : Heap} {d : Addr} {fs : List (Str × V)} (x : HOk P w H h) (e : H d = some (exd d fs)) : ∃ od, h.get? d = some od := (x d _ e).2.1
theorem call_isiE {X : Cx} : CallR X (.builtin "isinstance") (fun vs H Q => ∃ (x cv : V) (t u : Value) (b : Bool), vs = [x, cv] ∧ ClsV cv u ∧ TyE X.K H x t ∧ PySem.W.kitOne X.K t u = some b ∧ Q (.bl b) H) := by
  intro pins s σ H xs us Q I r h
  obtain ⟨x, cv, t, u, b, rfl, k, ty, e, q⟩ := h
  obtain ⟨u1, u2, rfl, r1, r2⟩ := vals2 r
  have e2 := k.eq r2
  subst e2
  cases ty with
  | base ty =>
    obtain ⟨P, Z, p, hx⟩ := kit_of I r1 ty
    exact PySem.W.kia_one Z I.kIn p e hx fun tk => ⟨.bl b, H, I.tok tk, rfl, q⟩
  | @exc0 a C t F ea =>
    cases (show u1 = Value.ref a from r1)
    have J : PySem.W.InstAt s.heap a (PySem.W.excObj C t none .none) C none := ⟨exq_at I.hok ea, rfl, rfl, trivial⟩
    exact PySem.W.kia_one (PySem.W.kitx_exc F.cl F.ga F.gg F.sb F.ca F.sp F.tk F.mo) I.kIn J e (fun z => nomatch z) fun tk => ⟨.bl b, H, I.tok tk, rfl, q⟩
  | @exc1 a C t d fs F ea ed =>
    cases (show u1 = Value.ref a from r1)
    obtain ⟨od, ho⟩ := exd_there I.hok ed
    have J : PySem.W.InstAt s.heap a (PySem.W.excObj C t (some d) .none) C (some od) := ⟨exq_at I.hok ea, rfl, rfl, ho⟩
    exact PySem.W.kia_one (PySem.W.kitx_exc F.cl F.ga F.gg F.sb F.ca F.sp F.tk F.mo) I.kIn J e (fun z => nomatch z) fun tk => ⟨.bl b, H, I.tok tk, rfl, q⟩
/-- isinstance against one class: what is told of own exception classes, of built-in types -/
def isiD (isx : Str → Option Bool) (isT : String → Option Bool) (d : D) : OR :=
  let go : Option Bool → OR := fun o => match o with
    | some b => .sh (.bl b)
    | none => .stuck
  match d with
  | .non => go (isT "NoneType")
  | .bl _ => go (isT "bool")
  | .int _ => go (isT "int")
  | .str _ => go (isT "str")
  | .tup _ => go (isT "tuple")
  | .lst _ => go (isT "list")
  | .dct _ => go (isT "dict")
  | .exc n _ _ => go (isx n)
  | _ => .stuck
section
variable {X : Cx} {c : DCtx} {W : WX} {pos : Pos} {e : Expr} {es : List Expr} {ta : TA} {ma : MA} {m : ME}
theorem tyx_tup {K : PySem.W.Frag} {H : Hp} {a : Addr} {vs : List V} (h : SqT K H a vs) : TyX K H (.ref a) (.type "tuple") := by
  rcases h with (h | ⟨o, h⟩) | ⟨o, its, n, h, hc, _⟩
  · exact .base (.tup h)
  · exact .fTuple h
  · exact .kTuple h hc
theorem tyx_lst {K : PySem.W.Frag} {H : Hp} {a : Addr} {vs : List V} (h : LstAt K H a vs) : TyX K H (.ref a) (.type "list") := by
  rcases h with (h | ⟨o, h⟩) | ⟨its, n, h, _⟩
  · exact .base (.lst h)
  · exact .base (.frz h)
  · exact .kList h rfl
def rIsiE (K : PySem.W.Frag) (cv : V) : List V → Hp → VK → Prop := fun vs H Q => ∃ (x cv : V) (t u : Value) (b : Bool), vs = [x, cv] ∧ ClsV cv u ∧ TyE K H x t ∧ PySem.W.kitOne K t u = some b ∧ Q (.bl b) H
theorem ref_isi {isx : Str → Option Bool} {isT : String → Option Bool} {cv : V} {u : Value} {te : TE} (k : ClsV cv u) (h1 : ∀ n b C, isx n = some b → c.mg n = some (.ref C) → ExF c.K C ∧ PySem.W.kitOne c.K (.ref C) u = some b)
    (h2 : ∀ T b, isT T = some b → PySem.W.kitOne c.K (.type T) u = some b) (he : Ref c W te m) :
    Ref c W (tCB (fun vs H Q => ∃ (x cv : V) (t u : Value) (b : Bool), vs = [x, cv] ∧ ClsV cv u ∧ TyE c.K H x t ∧ PySem.W.kitOne c.K t u = some b ∧ Q (.bl b) H) (tCons te (tCons (tC cv) tNil))) (mUn (isiD isx isT) m) := by
  intro B env σ H Q R h
  refine he B env σ H _ R (Goal.next Post.refl (fun _ z => z) h fun x e1 v H1 R1 V1 P1 h1' => ?_)
  cases ex : x.view e1 with
  | none => rw [ex] at h1'; exact h1'.elim
  | some a =>
    rw [ex] at h1'
    have T := V1.top R1 addB_sub ex
    have G := Goal.ends (W := W) P1 R1 addB_sub h1'
    have fin : ∀ (o : Option Bool) (t : Value), (∀ b, o = some b → TyE c.K H1 v t ∧ PySem.W.kitOne c.K t u = some b) → OGoal c (AvE B e1 σ) H1 Q (match o with | some b => OR.sh (.bl b) | none => .stuck) →
        ∃ (x' cv' : V) (t u : Value) (b : Bool), [v, cv] = [x', cv'] ∧ ClsV cv' u ∧ TyE c.K H1 x' t ∧ PySem.W.kitOne c.K t u = some b ∧ Q (.bl b) H1 := fun o t ho g => by
      cases o with
      | none => exact g.elim
      | some b => exact ⟨v, cv, t, u, b, rfl, k, (ho b rfl).1, (ho b rfl).2, g _ (.bl b)⟩
    cases T with
    | non => exact fin (isT "NoneType") (.type "NoneType") (fun b e => ⟨.base (.base .non), h2 _ _ e⟩) G
    | bl y => exact fin (isT "bool") (.type "bool") (fun b e => ⟨.base (.base (.bl y)), h2 _ _ e⟩) G
    | int y => exact fin (isT "int") (.type "int") (fun b e => ⟨.base (.base (.int y)), h2 _ _ e⟩) G
    | str y => exact fin (isT "str") (.type "str") (fun b e => ⟨.base (.base (.str y)), h2 _ _ e⟩) G
    | tup g1 g2 => exact fin (isT "tuple") (.type "tuple") (fun b e => ⟨.base (tyx_tup g1), h2 _ _ e⟩) G
    | lst g1 g2 => exact fin (isT "list") (.type "list") (fun b e => ⟨.base (tyx_lst g1), h2 _ _ e⟩) G
    | dct g1 g2 g3 => exact fin (isT "dict") (.type "dict") (fun b e => ⟨.base (.base (.dK g1)), h2 _ _ e⟩) G
    | obj g0 g1 g2 g3 => exact G.elim
    | fn g0 => exact G.elim
    | @exc0 a C t n mm g0 g1 g2 => exact fin (isx n) (.ref C) (fun b e => ⟨.exc0 (h1 n b C e g0).1 g1, (h1 n b C e g0).2⟩) G
    | @exc1 a C t d n fs ds g0 g1 g2 g3 g4 => exact fin (isx n) (.ref C) (fun b e => ⟨.exc1 (h1 n b C e g0).1 g1 g2, (h1 n b C e g0).2⟩) G
theorem de_isi {x : Str} {p p1 : Pos} {isx : Str → Option Bool} {isT : String → Option Bool} {cv : V} {u : Value} (hK : c.K = X.K) (hg : Gl X "isinstance") (hm : X.mg "isinstance" = none) (he : DE X c W e m) (hc : PE X (.Name x p) (tC cv)) (k : ClsV cv u)
    (h1 : ∀ n b C, isx n = some b → c.mg n = some (.ref C) → ExF c.K C ∧ PySem.W.kitOne c.K (.ref C) u = some b) (h2 : ∀ T b, isT T = some b → PySem.W.kitOne c.K (.type T) u = some b)
    (hs : starEach [e, .Name x p] X.env = (false, eval e X.env) :: starEach [.Name x p] X.env := by rfl) (hs2 : starEach [.Name x p] X.env = (false, eval (.Name x p) X.env) :: starEach [] X.env := by rfl) (hpl : (backTo pos (starEach [.Name x p] X.env)).any (·.1) = false := by rfl) :
    DE X c W (.Call (.Name "isinstance" p1) [e, .Name x p] [] pos) (mUn (isiD isx isT) m) :=
  let ⟨_, q1, r1⟩ := he.ex
  ⟨_, pe_callB call_isiE hg hm bt_isi (pa_cons q1 (pa_cons hc pa_nil hs2) hs) (he := hs) (hpl := hpl), by rw [← hK]; exact ref_isi k h1 h2 r1⟩
/-! ### e.f -/
def fldD (L : List Str) (f : Str) : D → OR
  | .exc n none fs => if L.contains n then match fs.lookup f with
    | some d => .sh d
    | none => .stuck else .stuck
  | _ => .stuck
def rFld (K : PySem.W.Frag) (f : Str) : V → Hp → VK → Prop := fun x H Q => ∃ (a C t d : Addr) (fs : List (Str × V)) (v : V), x = .ref a ∧ ExF K C ∧ PySem.W.hasDictIn K C = true ∧ PySem.W.findIn K (.ref C) f = some none ∧ H a = some (exq a C (some d) t) ∧ H d = some (exd d fs) ∧ fs.lookup f = some v ∧ Q v H
theorem pe_fld {f : Str} {te : TE} (he : PE X e te) (hb : attributeBase e f X.env (eval e X.env) = eval e X.env := by rfl) : PE X (.Attribute e f pos) (tUn (rFld X.K f) te) := by
  refine ⟨fun pins s σ H Q I h => ?_⟩
  refine attr_of hb (thn (he.run pins s σ H _ I h) fun u s1 hh => ?_)
  obtain ⟨x, H1, I1, rx, a, C, t, d, fs, v, rfl, F, hd, hn, ea, ed, hl, q⟩ := hh
  obtain rfl : u = Value.ref a := rx
  obtain ⟨mA, hns, hr⟩ := exd_at I1.hok ed
  obtain ⟨od, ho, hl'⟩ := lookIn_ns hns
  obtain ⟨u, hu, ru⟩ := RelO.some_of (v := v) (o := mA f) (by rw [← hl]; exact hr f)
  have J : PySem.W.InstAt s1.heap a (PySem.W.excObj C t (some d) .none) C (some od) := ⟨exq_at I1.hok ea, rfl, rfl, ho⟩
  exact PX.exc_get I1.kIn J F.ga F.gg F.sb (PySem.W.findObj_own hd hn rfl (by rw [hl', hu])) (handed_of ru) ⟨v, H1, I1.tok _, ru, q⟩
theorem RDs.look {K : PySem.W.Frag} {mg : Str → Option Value} {Av : Addr → Prop} {H : Hp} {f : Str} {y : D} : ∀ {fs : List (Str × V)} {ds : List (Str × D)}, ds.map (·.1) = fs.map (·.1) → RDs K mg Av H (fs.map (·.2)) (ds.map (·.2)) → ds.lookup f = some y → ∃ v, fs.lookup f = some v ∧ RD K mg Av H v y
  | [], [], _, _, e => by cases e
  | [], _ :: _, h, _, _ => by cases h
  | _ :: _, [], h, _, _ => by cases h
  | (a, v) :: fs, (b, d) :: ds, h, r, e => by
    have h' := List.cons.inj h
    have hab : b = a := h'.1
    subst hab
    cases r with
    | cons r1 r2 =>
      rw [List.lookup_cons] at e ⊢
      cases hk : f == b with
      | true => rw [hk] at e; cases e; exact ⟨v, rfl, r1⟩
      | false => rw [hk] at e; exact RDs.look h'.2 r2 e
theorem op1_fld {L : List Str} {f : Str} (h : ∀ n, L.contains n = true → ∀ C, c.mg n = some (.ref C) → ExF c.K C ∧ PySem.W.hasDictIn c.K C = true ∧ PySem.W.findIn c.K (.ref C) f = some none) : Op1 c (rFld c.K f) (fldD L f) := by
  intro Av H x a Q T g
  cases T with
  | @exc1 a C t d n fs ds g0 g1 g2 g3 g4 =>
    have g : OGoal c Av H Q (if L.contains n then match ds.lookup f with
      | some d => .sh d
      | none => .stuck else .stuck) := g
    by_cases hL : L.contains n = true
    · rw [if_pos hL] at g
      cases hy : ds.lookup f with
      | none => rw [hy] at g; exact g.elim
      | some y =>
        rw [hy] at g
        obtain ⟨v, hv, rv⟩ := RDs.look g3 g4 hy
        obtain ⟨F, hd, hn⟩ := h n hL C g0
        exact ⟨a, C, t, d, fs, v, rfl, F, hd, hn, g1, g2, hv, g v rv⟩
    · rw [if_neg hL] at g; exact g.elim
  | _ => exact g.elim
theorem de_fld {L : List Str} {f : Str} (hK : c.K = X.K) (h : ∀ n, L.contains n = true → ∀ C, c.mg n = some (.ref C) → ExF c.K C ∧ PySem.W.hasDictIn c.K C = true ∧ PySem.W.findIn c.K (.ref C) f = some none) (he : DE X c W e m)
    (hb : attributeBase e f X.env (eval e X.env) = eval e X.env := by rfl) : DE X c W (.Attribute e f pos) (mUn (fldD L f) m) :=
  let ⟨_, q1, r1⟩ := he.ex; ⟨_, pe_fld q1 hb, by rw [← hK]; exact ref_un (op1_fld h) r1⟩
/-! ### str(e) -/
def strD (L : List Str) : List D → OR
  | [.exc n (some m) []] => if L.contains n then .sh (.str m) else .stuck
  | _ => .stuck
theorem cr_strE {L : List Str} (hK : c.K = X.K) (hu : X.A.units + 64 < cLine) (h : ∀ n, L.contains n = true → ∀ C, c.mg n = some (.ref C) → PySem.W.findIn c.K (.ref C) "__str__" = some (some (.builtin "BaseException.__str__")) ∧ PySem.W.subIn c.K (.ref C) (.type "BaseException") = some true) :
    CallR X (.type "str") (rDN c (strD L)) := by
  intro pins s σ H xs us Q I r g
  obtain ⟨Av, ds, T, g⟩ := g
  unfold strD at g
  split at g
  · rename_i n m
    by_cases hL : L.contains n = true
    · rw [if_pos hL] at g
      cases T with
      | cons t1 t2 =>
        cases t2
        cases t1 with
        | @exc0 a C t _ _ g0 g1 g2 =>
          cases r with
          | cons ru rn =>
            rename_i u us'
            cases rn
            cases (show u = Value.ref a from ru)
            obtain ⟨hs, hB⟩ := h n hL C g0
            rw [hK] at hs hB
            obtain ⟨_, its, rv, o, o1, o2, nn, o3⟩ := (show ObjOk X.prog X.w H s.heap t (.tup [.str m]) from I.hok t _ g2)
            cases rv with
            | cons rv1 rv2 =>
              rename_i w ws
              cases rv2
              obtain ⟨tk, rfl⟩ := rv1
              refine PySem.P.str_of_C_one (K := X.K) (C := C) (t0 := t) (m := m) (tk := tk) (by omega) ⟨I.kIn, _, _, exq_at I.hok g1, rfl, rfl, rfl⟩ ⟨o, nn, o1, o2, o3⟩ hs hB ?_
              exact ⟨.str m, H, I, ⟨tk, rfl⟩, g _ (.str m)⟩
    · rw [if_neg hL] at g; exact g.elim
  · exact g.elim
end
end Q

set_option linter.all false
set_option maxRecDepth 100000
set_option maxHeartbeats 4000000
namespace Q
open PySem PySem.Spec PyProof.Rows L2
/-! ### own classes over a base whose __new__ is not its own (KeyError) -/
/-- what makes the objects -/
structure NewF (newId : String) (bmB : List Value) : Prop where
  ex : ∃ (Bn iN : String) (bmN : List Value), ExcBaseFacts Bn newId iN bmN ∧ bmB.contains (.type Bn) = true
  nA : bmB.contains (.type "AttributeError") = false
  nN : bmB.contains (.type "NameError") = false
/-- the base's __init__ -/
structure IniF (B i : String) : Prop where
  kind : builtinKind i = some .slot
  row : Manifest.signature? i = some ⟨.positional, "*", B, .self, [⟨"args", .varPos, false⟩]⟩
  ns : (B != "*") = true
  plain : plainId i = true
  entry : entryFor table i = some Builtin.«BaseException.__init__»
theorem newF_of {B newId i : String} {bmB : List Value} (F : ExcBaseFacts B newId i bmB) : NewF newId bmB := ⟨⟨B, i, bmB, F, F.hasB⟩, F.noAttr, F.noName⟩
theorem iniF_of {B newId i : String} {bmB : List Value} (F : ExcBaseFacts B newId i bmB) : IniF B i := ⟨F.initKind, F.initRow, F.noStar, F.init.plain, F.initEntry⟩
section
variable {prog : Program} {w : World} {A : Around} {R : Result → Shared → Prop} {E : Value → Shared → Prop} {h : Heap} {g : Array GenState} {d : Drawn} {t : Nat} {os : OsState}
variable {nm q : Str} {C N : Addr} {bs bm bmB : List Value} {hdct : Bool} {sn : List Str} {sub : List Value} {ab : Bool} {col : Option Bool} {dd : Option Addr} {k0 k1 k2 k3 k5 : Option Value} {newId : String}
theorem check_n (FN : NewF newId bmB) (hT : ∀ Y : String, bm.contains (.type Y) = bmB.contains (.type Y)) {rest : List Value} {Qu : Unit → Shared → Prop} {M : Model}
    (hC : h.get? C = some (excClassObj nm q C N bs bm hdct sn sub ab col dd k0 k1 k2 k3 k5 newId)) (hq : Qu () ⟨h, g, d, t, os⟩) :
    wpAny M A (checkBuiltinCall newId ⟨.ref C :: rest, []⟩) Qu E ⟨h, g, d, t, os⟩ := by
  obtain ⟨Bn, iN, bmN, F, cB⟩ := FN.ex
  have c1 : (Value.ref C :: bm).contains (.type Bn) = true := by
    rw [List.contains_cons, hT, cB, Bool.or_true]
  have c2 := F.noStar
  simp only [checkBuiltinCall, F.newKind, F.newSplit, F.newRow]
  repeat (first
    | refine wpAny_loadPart_at hC ?_
    | (refine wpAny_isSubtype_exc hC ?_; rw [c1])
    | refine wpAny_staticBase_exc hC ?_
    | refine wpAny_madeBy_exc hC ?_
    | simp only [bne_self_eq_false, Bool.false_eq_true, if_false]
    | wp_step)
  exact hq
theorem new_n (FN : NewF newId bmB) (hT : ∀ Y : String, bm.contains (.type Y) = bmB.contains (.type Y)) {rest : List Value} (hC : h.get? C = some (excClassObj nm q C N bs bm hdct sn sub ab col dd k0 k1 k2 k3 k5 newId))
    (hq : R (.ok (.ret (.ref (h.objs.size + 1)))) ⟨(h.push (PySem.W.kdv_tup rest)).push (PX.excO C h.objs.size), g, d, t, os⟩) (hr : rest.length ≤ sizeLine) :
    codeAny (model prog w) A (.builtin newId ⟨.ref C :: rest, []⟩) R ⟨h, g, d, t, os⟩ := by
  obtain ⟨Bn, iN, bmN, F, cB⟩ := FN.ex
  have c0 := F.ends
  have c1 : (Value.ref C :: bm).contains (.type Bn) = true := by
    rw [List.contains_cons, hT, cB, Bool.or_true]
  have c2 : (Value.ref C :: bm).contains (.type "AttributeError") = false := by
    rw [List.contains_cons, hT, FN.nA]
    rfl
  have c3 : (Value.ref C :: bm).contains (.type "NameError") = false := by
    rw [List.contains_cons, hT, FN.nN]
    rfl
  refine codeAny_builtinAt F.entry ?_
  unfold Builtin.«BaseException.__new__»
  refine PySem.wpAt_bind ?_
  show PySem.wpAt _ _ _ (stack >>= _) _ _ _
  refine PySem.wpAt_bind (PySem.wpAt_stack fun p b => PySem.wpAt_of_wpAny ?_)
  wp_walk
  refine PySem.wpAt_of_wpAny ?_
  rw [F.owner]
  repeat (first
    | with_reducible refine wpAny_madeHere_exc F.canon hC ?_
    | with_reducible refine wpAny_loadPart_at hC ?_
    | (with_reducible refine wpAny_isSubtype_exc hC ?_; first | rw [c1] | rw [c2] | rw [c3])
    | wp_step)
  show R _ _
  rw [Heap.size_push]
  exact hq
theorem tcall_n (FN : NewF newId bmB) (hT : ∀ Y : String, bm.contains (.type Y) = bmB.contains (.type Y)) {rest : List Value} {fI : Addr} {Qf : Fin → Shared → Prop} (hC : h.get? C = some (excClassObj nm q C N bs bm hdct sn sub ab col dd k0 k1 k2 k3 k5 newId))
    (hi : W.Looks (model prog w) h (typeLookup (.ref C) "__init__") (some (.ref fI))) (hb : ∀ self : Value, W.Looks (model prog w) h (bindSpecial (.ref fI) self) (.ref fI, [self])) (hr : rest.length ≤ sizeLine)
    (hq : codeAny (model prog w) A (.call (.ref fI) ⟨.ref (h.objs.size + 1) :: rest, []⟩) (fun r s' => match r with
      | .ok (.ret v) => v = .none ∧ Qf (.done (.ret (.ref (h.objs.size + 1)))) s'
      | .ok _ => False
      | .error e => E e s') ⟨(h.push (PySem.W.kdv_tup rest)).push (PX.excO C h.objs.size), g, d, t, os⟩) :
    wpAny (model prog w) A (Builtin.«type.__call__» ⟨.ref C :: rest, []⟩) Qf E ⟨h, g, d, t, os⟩ := by
  obtain ⟨Bn, iN, bmN, F, cB⟩ := FN.ex
  -- type.__call__
  repeat (first
    | with_reducible refine wpAny_loadPart_at hC ?_
    | with_reducible refine wpAny_madeBy_exc hC ?_
    | wp_step)
  refine codeAny_call_builtin_code (Code.quiet_builtin _ F.quiet) (check_n FN hT hC ?_)
  refine new_n FN hT hC ?_ hr
  show wpAny _ _ _ _ _ _
  have k : ∀ b o, h.get? b = some o → ((h.push (PySem.W.kdv_tup rest)).push (PX.excO C h.objs.size)).get? b = some o := fun b o e =>
    Heap.get?_push_of_some _ (Heap.get?_push_of_some _ e)
  have at1 : ((h.push (PySem.W.kdv_tup rest)).push (PX.excO C h.objs.size)).get? (h.objs.size + 1) = some (PX.excO C h.objs.size) := by heap_get
  have c1 : (Value.ref C :: bm).contains (.ref C) = true := by simp
  have hC1 := k _ _ hC
  have i1 := hi.keeps k
  have b1 := (hb (.ref (h.objs.size + 1))).keeps k
  unfold isInstance
  repeat (first
    | with_reducible refine wpAny_loadPart_at at1 ?_
    | (with_reducible refine wpAny_isSubtype_exc hC1 ?_; rw [c1])
    | wp_step)
  show wpAny _ _ (typeLookup (.ref C) _) _ _ _
  refine i1.at (wpAny_holding (wpAny_bind (b1.at (wpAny_bind (wpAny_call (codeAny_mono hq fun r s' z => ?_))))))
  rcases r with e | (v | _ | _ | _) <;> first
    | exact z
    | exact z.elim
    | (obtain ⟨rfl, z⟩ := z
       first
         | exact wpAny_pure (wpAny_pure z)
         | (wp_walk; exact z))
theorem call_n (FN : NewF newId bmB) (hT : ∀ Y : String, bm.contains (.type Y) = bmB.contains (.type Y)) {rest : List Value} {fI : Addr} (hC : h.get? C = some (excClassObj nm q C N bs bm hdct sn sub ab col dd k0 k1 k2 k3 k5 newId))
    (hi : W.Looks (model prog w) h (typeLookup (.ref C) "__init__") (some (.ref fI))) (hb : ∀ self : Value, W.Looks (model prog w) h (bindSpecial (.ref fI) self) (.ref fI, [self])) (hr : rest.length ≤ sizeLine)
    (hq : codeAny (model prog w) (A.under (.builtin "type.__call__" ⟨.ref C :: rest, []⟩)) (.call (.ref fI) ⟨.ref (h.objs.size + 1) :: rest, []⟩) (W.InitBack (h.objs.size + 1) R) ⟨(h.push (PySem.W.kdv_tup rest)).push (PX.excO C h.objs.size), g, d, t, os⟩) :
    codeAny (model prog w) A (.call (.ref C) ⟨rest, []⟩) R ⟨h, g, d, t, os⟩ := by
  have l1 := tc_lookup
  have l2 := tc_bind (.ref C)
  have l3 : (⟨h, g, d, t, os⟩ : Shared).TypeIs (.ref C) "type" := ⟨_, hC, rfl⟩
  refine codeAny_of_tree ?_
  show wpAny _ _ (callAny (.ref C) _) _ _ _
  repeat (any_goals (first
    | assumption
    | with_reducible refine wpAny_loadPart_at hC ?_
    | wp_step))
  refine ⟨rfl, ?_⟩
  refine codeAny_call_builtin_at (Code.quiet_builtin _ (by decide +kernel)) entry_typeCall (wpAny_check_type_call_sub hC (tcall_n FN hT hC hi hb hr (codeAny_mono hq fun r s' z => ?_)))
  rcases r with e | (v | _ | _ | _)
  all_goals exact z
end
section
open PySem.W
variable {prog : Program} {w : World} {A : Around} {E : Value → Shared → Prop} {s : Shared} {h₀ : Heap} {L : Addr} {m : Str → Option Value} {news : List (Addr × Obj)} {K : Frag} {x C u : Addr} {B i newId : String} {bmB : List Value}
/-- super().__init__(..) called: the args are laid anew -/
theorem mw_call {t : Addr} {dv : Option Addr} {c2 : Value} {rest : List Value} {nw : Obj → List (Addr × Obj)} {Q : Value → Shared → Prop} (F : Fr h₀ L s.heap m) (X0 : K.In h₀) (N : News h₀ L s.heap news) (FI : IniF B i) (q : excInitIn K C bmB newId = true)
    (hm : (u, kxs_mw i x) ∈ news) (U : UpdF x (excObj C t dv c2) news nw) (hz : rest.length ≤ sizeLine)
    (hq : ∀ t' h', Fr h₀ L h' m → News h₀ L h' ((t', excTup rest) :: nw (excObj C t' dv c2)) → Q .none { s with heap := h' }) :
    wpAny (model prog w) A (call (.ref u) rest) Q E s := by
  obtain ⟨nm, N', qn, bs, bm, hdct, sn, sub, ab, col, dd, k0, k1, k2, k3, k5, hC, hT⟩ := excInit_of (X0.keeps F.keep) q
  have hu := (N _ hm).1
  obtain ⟨pre, post, rfl, hg, a, b⟩ := U.split
  have me : (x, excObj C t dv c2) ∈ pre ++ (x, excObj C t dv c2) :: post := by simp
  obtain ⟨he, hL, h0⟩ := N _ me
  obtain ⟨hh, g, d, tk, os⟩ := s
  have fin : ∀ h', (∀ y o, y ≠ x → hh.get? y = some o → h'.get? y = some o) → h'.get? x = some (excObj C hh.objs.size dv c2) → h'.get? hh.objs.size = some (excTup rest) → Q .none ⟨h', g, d, tk, os⟩ := fun h' k e' t' => by
    obtain ⟨oL, es, ep, gL, r⟩ := F.ns
    have ne : ∀ {y : Addr} {o : Obj}, h₀.get? y = some o → y ≠ x := fun {y o} z e => by
      have h0' : h₀.get? x = none := h0
      rw [e, h0'] at z
      cases z
    have fL : Fr h₀ L h' m := ⟨⟨oL, es, ep, k _ _ (fun z => hL z.symm) gL, r⟩, fun y o z => k y o (ne z) (F.keep y o z), F.above⟩
    refine hq hh.objs.size h' fL ?_
    rw [hg]
    intro p hp
    rcases List.mem_cons.mp hp with rfl | hp
    · refine ⟨t', fun z => ?_, ?_⟩
      · have z2 : hh.objs.size = L := z
        exact absurd (Heap.lt_size (show hh.get? L = some oL from gL)) (by rw [← z2]; exact Nat.lt_irrefl _)
      · cases z : h₀.get? hh.objs.size with
        | none => rfl
        | some o => exact absurd (Heap.lt_size (F.keep _ _ z)) (Nat.lt_irrefl _)
    · rcases List.mem_append.mp hp with hp | hp
      · obtain ⟨n1, n2, n3⟩ := N p (List.mem_append_left _ hp)
        exact ⟨k _ _ (a p hp) n1, n2, n3⟩
      · rcases List.mem_cons.mp hp with rfl | hp
        · exact ⟨e', hL, h0⟩
        · obtain ⟨n1, n2, n3⟩ := N p (List.mem_append_right _ (.tail _ hp))
          exact ⟨k _ _ (b p hp) n1, n2, n3⟩
  have c1 := FI.ns
  have chk : ∀ {Qu : Unit → Shared → Prop} {E' : Value → Shared → Prop}, Qu () ⟨hh, g, d, tk, os⟩ → wpAny (model prog w) A.in1 (checkBoundCall i ⟨.ref x :: rest, []⟩) Qu E' ⟨hh, g, d, tk, os⟩ := fun {Qu E'} hu' => by
    simp only [checkBoundCall, FI.kind, FI.row]
    repeat (first
      | (with_reducible refine wpAny_loadPart_at he ?_; rw [show (excObj C t dv c2).cls = .ref C from rfl])
      | with_reducible refine wpAny_loadPart_at hC ?_
      | wp_step)
    refine wpAny_onRaise ?_
    have ck : ∀ (x1 x2 : String) (n : Nat), Bind.check ⟨.positional, "*", B, .self, [⟨"args", .varPos, false⟩]⟩ x1 x2 n (List.map (fun y => y.fst) ({ pos := Value.ref x :: rest } : Args).kw) = pure () := fun x1 x2 n => check_star_args _ _ _ _ _ _
    rw [ck]
    exact wpAny_pure hu'
  refine wpAny_call (codeAny_of_tree ?_)
  show wpAny _ A.in1 (callAny (.ref u) ⟨rest, []⟩) _ _ _
  simp only [callAny]
  refine wpAny_bind (wpAny_load hu ?_)
  have dd1 : (Value.type "method-wrapper" == Value.type "method" || Value.type "method-wrapper" == Value.type "builtin_function_or_method" || Value.type "method-wrapper" == Value.type "method-wrapper") = true := by decide
  simp only [kxs_mw, dd1, if_true]
  refine KFB.if_so (by decide) ?_
  refine wpAny_bind (chk ?_)
  refine wpAny_bind (wpAny_pure (wpAny_pure ?_))
  exact ⟨plainId_quiet FI.plain _, codeAny_builtin FI.entry (exc_init_tree (cls := .ref C) (t0 := t) (dv := dv) (c2 := c2) (c3 := .none) (b4 := .bool false) he hz fin)⟩
end
end Q

set_option linter.all false
set_option maxRecDepth 100000
set_option maxHeartbeats 4000000
namespace Q
open PySem PySem.Spec PyProof.Rows PySem.Calls L2
/-! ### an own exception class whose __init__ says super().__init__(e) and keeps one field -/
section
open Builtin Builtin.ObjectAttr
variable {prog : Program} {w : World} {A : Around} {R : Result → Shared → Prop} {hp : Heap} {g : Array GenState} {d : Drawn} {t : Nat} {os : OsState}
/-- self.name = v on such an object, that has no dict yet -/
theorem osa_q {K : W.Frag} {name : Str} {tk : Tok} {v : Value} {x C : Addr} {fv : Array Value} {cd : ClassData} (Y : K.In hp)
    (hx : hp.get? x = some { cls := .ref C, data := .fields fv }) (hcd : W.clsIn K C = some cd) (pass : ∀ self : Value, refuseLoop self "__setattr__" cd.mro = pure ())
    (mo : W.mroIn K C (.type "object") = some true) (hh : cd.hasDict = true) (no : W.findIn K (.ref C) name = some none)
    (hq : ∀ h' tk' dx, (∀ b o, b ≠ x → hp.get? b = some o → h'.get? b = some o) → hp.objs.size ≤ dx → dx ≠ x → h'.get? x = some { cls := .ref C, dict := some dx, data := .fields fv } →
      h'.Ns1 dx (fun y => if y = name then some v else none) → R (.ok (.ret .none)) ⟨h', g, d, tk', os⟩) :
    codeAny (model prog w) A (.call (.builtin "object.__setattr__") ⟨[.ref x, .str name tk, v], []⟩) R ⟨hp, g, d, t, os⟩ := by
  have J : W.InstAt hp x { cls := .ref C, data := .fields fv } C none := ⟨hx, rfl, rfl, trivial⟩
  have ne : x ≠ hp.objs.size := Nat.ne_of_lt (Heap.lt_size hx)
  have isob : W.Looks (model prog w) hp (isInstance (.ref x) (.type "object")) true := J.type.andThen (W.looks_mroIn Y mo)
  have fo := F.store_object
  refine codeAny_call_builtin fo.slot.plain fo.entry (@W.check_slot (model prog w) _ _ ⟨hp, g, d, t, os⟩ "object.__setattr__" "object" "__setattr__" (.ref x)
    [.str name tk, v] [] _ fo.kind fo.split isob (fo.args (.ref x) (.str name tk) v) ?_)
  have m1 : W.Looks (model prog w) hp (mroOf (.ref C)) cd.mro := (W.looks_clsIn Y hcd).andThen .now
  have m2 : W.Looks (model prog w) hp (storeTaker? none) none := .now
  have m3 : W.Looks (model prog w) hp (classData C) cd := W.looks_clsIn Y hcd
  rw [W.osa_eq, refuse_eq]
  refine wpAny_bind (wpAny_bind (J.type.at (wpAny_bind (m1.at ?_))))
  rw [pass]
  refine wpAny_pure (wpAny_bind (J.type.at (wpAny_bind ((W.looks_findIn Y no).at (wpAny_bind (m2.at ?_))))))
  show wpAny _ _ (storeInOwnDict (.ref x) (.ref C) (.str name tk) name v false) _ _ _
  obtain ⟨c1, c2, c3, c4, c5, c6, c7, c8, c9, c10, c11⟩ := cd
  dsimp only at hh
  subst hh
  unfold storeInOwnDict ownDictForStores
  repeat (first | with_reducible refine HandSPX.store_in_new ?_ ?_
                | with_reducible refine wpAny_loadPart_at hx ?_
                | with_reducible refine m3.at ?_ | wp_step)
  · exact ⟨_, #[], _, (Heap.get?_update_ne _ _ _ _ (Ne.symm ne)).trans (Heap.get?_push_at rfl rfl), rfl, fun e he => absurd he (by simp), fun _ => rfl⟩
  · intro h' tk' n1 n2
    have hy : (hp.push { cls := .type "dict", data := .dict #[] }).get? x = some { cls := .ref C, data := .fields fv } := Heap.get?_push_of_some _ hx
    exact hq h' tk' hp.objs.size (fun b o hb ho => (n2.2 b (Nat.ne_of_lt (Heap.lt_size ho))).trans ((Heap.get?_update_ne _ _ _ _ hb).trans (Heap.get?_push_of_some _ ho)))
      (Nat.le_refl _) (Ne.symm ne) ((n2.2 x ne).trans (Heap.get?_update_self _ hy rfl)) n1
end
/-- what the written part says of such a class C (its __init__ at fI) -/
structure SupF (P : Program) (K : PySem.W.Frag) (mg : Str → Option Value) (C fI cc cda : Addr) (qual f : Str) (st : Stmt) (B newId i : String) (bmB : List Value) : Prop where
  fn : ∃ (oc kV doc pm ct : Value) (od an : Option Addr) (osl : Array (Option Value)), K.lookup fI = some ⟨oc, od, .func (PySem.W.ksFn "__init__" qual (defArgs st) (defBody st) (defScope st) .none kV doc pm an (.ref cda) ct cc), osl⟩
  cd : PySem.W.codeIn K (.ref cda) qual = true
  tI : PySem.W.typeIn K (.ref fI) = some (.type "function")
  iC : PySem.W.findIn K (.ref C) "__init__" = some (some (.ref fI))
  code : ∃ (ccl : Value) (cdd : Option Addr) (vs : Array Value) (ccs : Array (Option Value)) (file : Str) (tf : Tok), K.lookup cda = some ⟨ccl, cdd, .fields vs, ccs⟩ ∧ vs[2]? = some (.str file tf) ∧ ((P.main.file : Str) == file) = true
  cell : ∃ (cl : Value) (cld : Option Addr) (csl : Array (Option Value)), K.lookup cc = some ⟨cl, cld, .cell (some (.ref C)), csl⟩
  sup : mg "super" = none
  top : (P.main.scope.names.lookup ("super" : Str)).isSome = false
  q : PySem.W.excInitIn K C bmB newId = true
  ts : PySem.W.nsIn K cStatics "thirdparty.any" = some none
  sm : PySem.W.ks_superIn K C C "__init__" = some (some (.builtin i))
  sb : PySem.W.subIn K (.ref C) (.type B) = some true
  sa : PySem.W.findIn K (.ref C) "__setattr__" = some (some (.builtin "object.__setattr__"))
  mro : ∃ cd, PySem.W.clsIn K C = some cd ∧ cd.hasDict = true ∧ ∀ self : Value, refuseLoop self "__setattr__" cd.mro = pure ()
  mo : PySem.W.mroIn K C (.type "object") = some true
  ms : PySem.W.mroIn K C (.ref C) = some true
  no : PySem.W.findIn K (.ref C) f = some none
  kC : PySem.W.keepIn K (.ref C) = true
/-- the text of such an __init__ -/
structure SupTx (st : Stmt) (f a : Str) (e : Expr) : Prop where
  body : ∃ p0 p1 p2 p3 p4 p5 p6 p7 p8, defBody st = [.Expr (.Call (.Attribute (.Call (.Name "super" p0) [] [] p1) "__init__" p2) [e] [] p3) p4, .Assign [.Attribute (.Name "self" p5) f p6] (.Name a p7) p8] ∧
    ∀ (qual : Str) (L fn cc : Addr) (cda : Value), ∃ pl : Sem Bool, eval (.Call (.Attribute (.Call (.Name "super" p0) [] [] p1) "__init__" p2) [e] [] p3) (PySem.W.ksEnv qual (defScope st) L fn cda cc) = (do
        let ov ← attributeBase (.Call (.Name "super" p0) [] [] p1) "__init__" (PySem.W.ksEnv qual (defScope st) L fn cda cc) (eval (.Call (.Name "super" p0) [] [] p1) (PySem.W.ksEnv qual (defScope st) L fn cda cc))
        standAt p2.atName
        let (f, first) ← holding [ov] (getMethod ov "__init__" pl)
        callWith p3 f first (backTo p3 (starEach [e] (PySem.W.ksEnv qual (defScope st) L fn cda cc))) []) ∧
      interactive (PySem.W.ksEnv qual (defScope st) L fn cda cc) = false ∧ swapsWith (.Call (.Attribute (.Call (.Name "super" p0) [] [] p1) "__init__" p2) [e] [] p3) none p4.line (PySem.W.ksEnv qual (defScope st) L fn cda cc) = pure false ∧
      swapsWith (.Name a p7) (some (.Attribute (.Name "self" p5) f p6)) p8.line (PySem.W.ksEnv qual (defScope st) L fn cda cc) = pure false
  bind : ∀ (qual : Str) (kV doc pm ct cda : Value) (an : Option Addr) (cc : Addr) (u v : Value), bindArgs (PySem.W.ksFn "__init__" qual (defArgs st) (defBody st) (defScope st) .none kV doc pm an cda ct cc) ⟨[u, v], []⟩ = pure [(("self" : Str), u), (a, v)]
  head : ∃ ar, ((defArgs st).posonlyargs ++ (defArgs st).args).head? = some ar ∧ ar.arg = "self"
  ks : (defScope st).names.lookup ("super" : Str) = some .globalImplicit
  kc : (defScope st).names.lookup ("__class__" : Str) = some .free
  kself : (defScope st).names.lookup ("self" : Str) = some .local
  ka : (defScope st).names.lookup a = some .local
  nc : ∀ x ∈ (defScope st).names, x.2 ≠ .cell
  kind : (defScope st).kind = .function
  co : (defScope st).isCoroutine = false
  gen : (defScope st).isGenerator = false
  ne : (a == ("self" : Str)) = false
  ne' : (("self" : Str) == a) = false
  db : (a == ("__debug__" : Str)) = false
theorem bt_super : bootBuiltins "super" = some (.type "super") := by decide +kernel
abbrev frames (s : Heap) := s
section
open PySem.W
variable {prog : Program} {w : World} {A : Around} {R : Result → Shared → Prop} {s : Shared} {K : Frag} {mg : Str → Option Value} {C fI cc cda : Addr} {qual f a : Str} {st : Stmt} {B newId i : String} {bmB : List Value} {e : Expr}
/-- what it leaves of a fresh exception at x -/
structure SupEnd (h h' : Heap) (x C dx t1 : Addr) (f : Str) (v : Value) : Prop where
  keep : ∀ b o, h.get? b = some o → h'.get? b = some o
  obj : h'.get? x = some (excObj C t1 (some dx) .none)
  dbig : h.objs.size ≤ dx
  dne : dx ≠ x
  ns : h'.Ns1 dx (fun y => if y = f then some v else none)
/-- the argument of super().__init__(..) is told, at whatever heap lies above the frame's -/
def ArgOk (prog : Program) (w : World) (env : Env) (e : Expr) (h₀ : Heap) (L : Addr) (m : Str → Option Value) : Prop :=
  ∀ (A : Around) (E : Value → Shared → Prop) (news : List (Addr × Obj)) (s : Shared) (Q : Value → Shared → Prop), A.guards = some [] → A.units + 100 < cLine → Fr h₀ L s.heap m → News h₀ L s.heap news →
    (∀ u h' tk, Fr h₀ L h' m → News h₀ L h' news → Q u { s with heap := h', toks := tk }) → wpAny (model prog w) A (eval e env) Q E s
theorem ldA {env : Env} {x : Str} {pos : Pos} {v : Value} {m : Str → Option Value} {A : Around} {E : Value → Shared → Prop} {Q : Value → Shared → Prop} {s : Shared} {M : Model} (hn : s.heap.Ns env.locals m) (hv : m x = some v) (hk : env.scope.kind = .function) (hl : env.kindOf x = some .local) (hd : (x == ("__debug__" : Str)) = false) (h : Q v s) :
    wpAny M A (eval (.Name x pos) env) Q E s := wpAny_Name (wpAny_loadName_local hk hl hn hv h) hd
theorem sup_init (T : SupF prog K mg C fI cc cda qual f st B newId i bmB) (Tx : SupTx st f a e) (FN : NewF newId bmB) (FI : IniF B i) (KF : KxsFacts B i)
    {h₀ : Heap} {x t0 : Addr} {v : Value} (M : L2.Mod K mg h₀) (k0 : ∀ b o, h₀.get? b = some o → s.heap.get? b = some o) (hx : s.heap.get? x = some (excObj C t0 none .none)) (hx0 : h₀.get? x = none) (z0 : h₀.objs.size ≤ s.heap.objs.size) (hroom : A.depth < recursionLimit) (hun : A.units + 150 < cLine) (hgu : A.guards = some [])
    (se : ∀ env : Env, starEach [e] env = [(false, eval e env)])
    (ha : ∀ (L : Addr), ArgOk prog w (ksEnv qual (defScope st) L fI (.ref cda) cc) e h₀ L (fun y => [(a, v), (("self" : Str), Value.ref x)].lookup y))
    (hq : ∀ h' tk dx t1, SupEnd h₀ h' x C dx t1 f v → R (.ok (.ret .none)) { s with heap := h', toks := tk }) :
    codeAny (model prog w) A (.call (.ref fI) ⟨[.ref x, v], []⟩) R s := by
  obtain ⟨oc, kV, doc, pm, ct, od, an, osl, look⟩ := T.fn
  obtain ⟨p0, p1, p2, p3, p4, p5, p6, p7, p8, hb, hev⟩ := Tx.body
  obtain ⟨ar, har, harg⟩ := Tx.head
  obtain ⟨ccl, cdd, cvs, ccs, file, tf, lcode, hv2, hfile⟩ := T.code
  obtain ⟨cl, cld, csl, lcell⟩ := T.cell
  obtain ⟨cd, hcd, hdict, hpass⟩ := T.mro
  obtain ⟨mb, hmb, hbt⟩ := M.blt
  have X0 : K.In h₀ := M.kin
  have X : K.In s.heap := X0.keeps k0
  obtain ⟨oD, hD1, hD2⟩ : ∃ oD, s.heap.get? C = some oD ∧ oD.data = .cls cd := by
    unfold clsIn at hcd
    split at hcd
    · rename_i c d cd' sl ho
      cases hcd
      exact ⟨_, X _ _ ho, rfl⟩
    · cases hcd
  refine ks_codeAny_call_defAt (body := [.Expr (.Call (.Attribute (.Call (.Name "super" p0) [] [] p1) "__init__" p2) [e] [] p3) p4, .Assign [.Attribute (.Name "self" p5) f p6] (.Name a p7) p8]) (binds := [(("self" : Str), Value.ref x), (a, v)])
    hroom (X _ _ look) rfl (M.nolimit.keeps k0) (codeRec_of X T.cd) (by rw [← hb]) (BindsTo.of_eq (Tx.bind _ _ _ _ _ _ _ _ _ _)) Tx.nc ?l (fun h₁ hns k1 => ?_) Tx.co Tx.gen Tx.kind
  case l =>
    intro y hy
    rcases List.mem_cons.mp hy with rfl | hy
    · exact Tx.kself
    · rcases List.mem_cons.mp hy with rfl | hy
      · exact Tx.ka
      · cases hy
  have hns' : h₁.Ns s.heap.objs.size (fun y => [(a, v), (("self" : Str), Value.ref x)].lookup y) := hns
  have F1 : Fr h₀ s.heap.objs.size h₁ (fun y => [(a, v), (("self" : Str), Value.ref x)].lookup y) := ⟨hns', fun b o z => k1 b o (k0 b o z), z0⟩
  have N1 : News h₀ s.heap.objs.size h₁ [(x, excObj C t0 none .none)] := fun p hp => by
    cases List.mem_singleton.mp hp
    exact ⟨k1 _ _ hx, Nat.ne_of_lt (Heap.lt_size hx), hx0⟩
  have hself : [(a, v), (("self" : Str), Value.ref x)].lookup ("self" : Str) = some (Value.ref x) := by simp [List.lookup_cons, Tx.ne']
  have hval : [(a, v), (("self" : Str), Value.ref x)].lookup a = some v := by simp [List.lookup_cons]
  have zz : h₁.get? C = some oD := k1 _ _ hD1
  obtain ⟨pl, e1, e2, e3, e4⟩ := hev qual s.heap.objs.size fI cc (.ref cda)
  refine ks_wpAt_execs_cons (ks_wpAt_Expr_any (ks_wpAt_MethodCall (he := e1) (ks_wpAt_super_base Tx.ks Tx.kc (by decide) rfl (k1 _ _ (X _ _ look)) rfl har rfl (k1 _ _ (X _ _ lcode)) rfl hv2 hfile T.top ?_)) e2 e3)
  refine ks_loadName_global Tx.kind Tx.ks (loadGlobal_builtin (M.glob.keeps F1.keep) T.sup (hmb.keeps F1.keep) ((hbt _ (by decide)).trans bt_super) ⟨rfl, ?_⟩)
  refine wpAny_loadName_free Tx.kind Tx.kc rfl ⟨_, k1 _ _ (X _ _ lcell), rfl⟩ ?_
  rw [harg]
  refine wpAny_loadName_local Tx.kind Tx.kself F1.ns hself ?_
  refine ks_wpAny_isType_cls zz hD2 ⟨rfl, ?_⟩
  refine ks_wpAny_call_super zz hD2 (k1 _ _ hx) rfl (fun c z => by cases z) (looks_mroIn (X.keeps k1) T.ms) (fun h₂ hso k2 => ?_)
  obtain ⟨F2, N2, l2⟩ := ks_newsPush (s := { s with heap := h₁, toks := s.toks + 2 }) F1 N1 rfl hso k2
  have I2 : InstAt h₂ x (excObj C t0 none .none) C none := ⟨k2 _ _ (k1 _ _ hx), rfl, rfl, trivial⟩
  refine kxs_method (s := { s with heap := h₂, toks := s.toks + 2 }) KF F2 X0 N2 List.mem_cons_self I2 T.ts T.sm T.sb (by decide) (fun u h₃ F3 N3 l3 => ?_)
  refine kxs_callWith1 (i := i) (x := x) (s := { s with heap := h₃, toks := s.toks + 2 + 1 }) N3 List.mem_cons_self ?_ (by rw [se]; rfl) rfl
  rw [se]
  refine spliced_cons (ha _ _ _ _ _ _ (by exact hgu) (by show A.units + 3 + 100 < cLine; omega) F3 N3 fun ev h₄ tk F4 N4 => spliced_nil ⟨(N4 _ List.mem_cons_self).1, ?_⟩)
  have ux : u ≠ x := Nat.ne_of_gt (l3 (x, excObj C t0 none .none) (by simp))
  have sx : h₁.objs.size ≠ x := Nat.ne_of_gt (l2 (x, excObj C t0 none .none) (by simp))
  refine mw_call (s := { s with heap := h₄, toks := tk }) F4 X0 N4 FI T.q List.mem_cons_self (.tail ux (.tail sx (.head (by simp)))) (by show 1 ≤ sizeLine; rw [sizeLine_eq]; omega) (fun t' h₅ F5 N5 => ?_)
  -- self.f = a
  have hx5 : h₅.get? x = some (excObj C t' none .none) := (N5 (x, excObj C t' none .none) (by simp)).1
  have X5 : K.In h₅ := X0.keeps F5.keep
  refine wpAt_of_wpAny (wpAny_execs_cons (plainObj_wpAny_Assign_Attribute ?_ e4))
  refine ldA F5.ns hval Tx.kind Tx.ka Tx.db (ldA F5.ns hself Tx.kind Tx.kself (by decide) ?_)
  refine set_plain X5 (ox := excObj C t' none .none) (od := none) ⟨hx5, rfl, rfl, trivial⟩ T.sa ?_
  refine osa_q X5 hx5 hcd hpass T.mo hdict T.no (fun h₆ tk₆ dx k₆ dn dne hx₆ hn₆ => ?_)
  have dn' : h₅.objs.size ≤ dx := dn
  have h5L : s.heap.objs.size < h₅.objs.size := F5.ns.lt
  exact wpAny_execs_nil (hq h₆ _ dx t' ⟨fun b o z => k₆ b o (fun y => by rw [y, hx0] at z; cases z) (F5.keep b o z), hx₆, by omega, dne, hn₆⟩)
/-- C(v): a new exception object at e, its dict at d -/
theorem sup_made (T : SupF prog K mg C fI cc cda qual f st B newId i bmB) (Tx : SupTx st f a e) (FN : NewF newId bmB) (FI : IniF B i) (KF : KxsFacts B i) {v : Value} {k : Nat} (M : L2.Mod K mg s.heap) (hr : Room (k + 1) A) (hgu : A.guards = some [])
    (se : ∀ env : Env, starEach [e] env = [(false, eval e env)])
    (ha : ∀ (L x : Addr), ArgOk prog w (ksEnv qual (defScope st) L fI (.ref cda) cc) e s.heap L (fun y => [(a, v), (("self" : Str), Value.ref x)].lookup y))
    (hq : ∀ h' tk x dx t1, s.heap.objs.size ≤ x → SupEnd s.heap h' x C dx t1 f v → R (.ok (.ret (.ref x))) { s with heap := h', toks := tk }) :
    codeAny (model prog w) A (.call (.ref C) ⟨[v], []⟩) R s := by
  obtain ⟨nm, N', qn, bs, bm, hdct, sn, sub, ab, col, dd, k0, k1, k2, k3, k5, hC, hT⟩ := excInit_of M.kin T.q
  obtain ⟨hp, g, dr, tk, os⟩ := s
  have kk : ∀ b o, hp.get? b = some o → ((hp.push (kdv_tup [v])).push (PX.excO C hp.objs.size)).get? b = some o := fun b o z => Heap.get?_push_of_some _ (Heap.get?_push_of_some _ z)
  have at1 : ((hp.push (kdv_tup [v])).push (PX.excO C hp.objs.size)).get? (hp.objs.size + 1) = some (PX.excO C hp.objs.size) := by heap_get
  have no1 : hp.get? (hp.objs.size + 1) = none := Heap.get?_none_of_le (Nat.le_succ _)
  have sz : ((hp.push (kdv_tup [v])).push (PX.excO C hp.objs.size)).objs.size = hp.objs.size + 2 := by rw [Heap.size_push, Heap.size_push]
  refine call_n FN hT hC (looks_findIn M.kin T.iC) (fun self => bind_fn M.kin self T.tI) (by show 1 ≤ sizeLine; rw [sizeLine_eq]; omega) ?_
  have hr' := hr.make C [v] []
  refine sup_init (s := ⟨(hp.push (kdv_tup [v])).push (PX.excO C hp.objs.size), g, dr, tk, os⟩) (h₀ := hp) T Tx FN FI KF M kk at1 no1 (by show hp.objs.size ≤ _; rw [sz]; omega) hr'.depth (by have := hr'.un; omega) hgu se (fun L => ?_) fun h' tk' dx t1 S => ?_
  · exact ha L _
  · exact ⟨rfl, hq h' tk' _ dx t1 (Nat.le_succ _) S⟩
end

theorem argok_name {prog : Program} {w : World} {env : Env} {x : Str} {pos : Pos} {h₀ : Heap} {L : Addr} {m : Str → Option Value} {v : Value} (hk : env.scope.kind = .function) (hl : env.kindOf x = some .local) (eL : env.locals = L) (hd : (x == ("__debug__" : Str)) = false) (hv : m x = some v) : ArgOk prog w env (.Name x pos) h₀ L m :=
  fun A E news s Q hg _ F N h => by
    subst eL
    exact ldA F.ns hv hk hl hd (h v s.heap s.toks F N)
/-- C(e) as a value -/
def tSup (K : PySem.W.Frag) (ok : D → Bool) (C : Addr) (f : Str) (ta : TA) : TE := fun σ H Q => ta σ H fun vs H1 => ∃ v, vs = [v] ∧ (∃ (c : DCtx) (Av : Addr → Prop) (d : D), c.K = K ∧ RT c.K c.mg Av H1 v d ∧ ok d = true) ∧ ∀ a t d, H1 a = none → H1 d = none → d ≠ a → Q (.ref a) (L2.upd (L2.upd H1 d (exd d [(f, v)])) a (exq a C (some d) t))
def mSup (ok : D → Bool) (n f : Str) (ma : MA) : ME := fun env => (ma env).bind fun xs e => match frees xs with
  | some [d] => if ok d = true then .ok (.sh (.exc n none [(f, d)])) e else .stuck
  | _ => .stuck
theorem modAt {X : Cx} {pins : List (Addr × Obj)} {σ : L2.St} {H : Hp} {s : Shared} (I : Inv X pins σ H s) : L2.Mod X.K X.mg s.heap :=
  ⟨I.kIn, I.mod.glob.keeps I.bk, let ⟨mb, h1, h2⟩ := I.mod.blt; ⟨mb, h1.keeps I.bk, h2⟩, I.nolimit⟩
section
variable {X : Cx} {c : DCtx} {W : WX} {pos : Pos} {e : Expr} {es : List Expr} {ta : TA} {ma : MA} {C fI cc cda : Addr} {qual f a : Str} {st : Stmt} {B newId i : String} {bmB : List Value} {e0 : Expr} {ok : D → Bool} {Ok : Heap → Value → Prop}
/-- the argument of super().__init__ wherever it is asked -/
def ArgAll (prog : Program) (w : World) (st : Stmt) (qual : Str) (fI cc cda : Addr) (a : Str) (e : Expr) (Ok : Heap → Value → Prop) : Prop :=
  ∀ (h₀ : Heap) (L x : Addr) (v : Value), Ok h₀ v → ArgOk prog w (PySem.W.ksEnv qual (defScope st) L fI (.ref cda) cc) e h₀ L (fun y => [(a, v), (("self" : Str), Value.ref x)].lookup y)
theorem pe_sup {x : Str} {p : Pos} {k : Nat} (T : SupF X.prog X.K X.mg C fI cc cda qual f st B newId i bmB) (Tx : SupTx st f a e0) (FN : NewF newId bmB) (FI : IniF B i) (KF : PySem.W.KxsFacts B i) (hr : Room (k + 1) X.A) (hgu : X.A.guards = some [])
    (se : ∀ env : Env, starEach [e0] env = [(false, eval e0 env)]) (hA : ArgAll X.prog X.w st qual fI cc cda a e0 Ok) (hV : ∀ (pins : List (Addr × Obj)) (σ : L2.St) (H : Hp) (s : Shared) (c : DCtx) (Av : Addr → Prop) (d : D) (v : V) (u : Value), Inv X pins σ H s → c.K = X.K → RT c.K c.mg Av H v d → ok d = true → RelV v u → Ok s.heap u)  (gC : X.mg x = some (.ref C)) (hg : Gl X x) (ha : PA X [e] ta)
    (hs : starEach [e] X.env = (false, eval e X.env) :: starEach [] X.env := by rfl) (hdb : (x == ("__debug__" : Str)) = false := by decide) : PE X (.Call (.Name x p) [e] [] pos) (tSup X.K ok C f ta) := by
  refine ⟨fun pins s σ H Q I h => ?_⟩
  refine wpAny_Call_Name_kw (ld_glob I hg gC ?_ hdb)
  refine PySem.W.callWith_K (h₀ := X.base) I.ok.mod.kin T.kC (thn (ha.run pos pins s σ H _ I h) fun us s1 hh => ?_) hs (by rfl)
  obtain ⟨vs, H1, I1, r1, v, ev, ⟨c0, Av0, d0, k0, t0, o0⟩, g⟩ := hh
  subst ev
  refine ⟨I1.kIn, ?_⟩
  cases r1 with
  | cons ru rn =>
    rename_i u us'
    cases rn
    show wpAny _ _ (call (.ref C) [u]) _ _ _
    have okv := hV _ _ _ _ c0 Av0 d0 v u I1 k0 t0 o0 ru
    have Md := modAt I1
    obtain ⟨hh, gg, d, tk', os⟩ := s1
    refine wpAny_call (sup_made T Tx FN FI KF Md hr hgu se (fun L x => hA _ L x u okv) fun h' tk x dx t1 hx S => ?_)
    have nx : hh.get? x = none := Heap.get?_none_of_le hx
    have nd : hh.get? dx = none := Heap.get?_none_of_le S.dbig
    refine ⟨.ref x, _, inv_two (t' := tk) I1 S.keep nd nx S.dne ?_ (exq_ok S.obj), rfl, g x t1 dx (I1.hok.gone nx) (I1.hok.gone nd) S.dne⟩
    exact exd_ok S.ns fun y => relO_put (fs := []) (mA := fun _ => none) ru (fun _ => trivial) y
theorem ref_sup {n : Str} (hn : c.mg n = some (.ref C)) (ha : RefA c W ta ma) : Ref c W (tSup c.K ok C f ta) (mSup ok n f ma) := by
  intro Bq env σ H Q R h
  refine ha Bq env σ H _ R (Goal.nextA Post.refl (fun _ z => z) h fun xs e1 vs H1 R1 V1 P1 h1 => ?_)
  split at h1
  · rename_i d hv
    have V := V1.free (Bt := Bq) (fun _ z => z) hv
    cases V with
    | cons t1 t2 =>
      rename_i v vs'
      cases t2
      by_cases hok : ok d = true
      case neg => rw [if_neg hok] at h1; exact h1.elim
      rw [if_pos hok] at h1
      refine ⟨v, rfl, ⟨c, _, d, rfl, t1.top, hok⟩, fun a t d na nd ne => ?_⟩
      have k : Kep (fun _ => False) H1 (L2.upd (L2.upd H1 d (exd d [(f, v)])) a (exq a C (some d) t)) := Kep.trans (Kep.new nd) (Kep.new (by rw [upd_ne (Ne.symm ne)]; exact na))
      have dm : ∀ b o, H1 b = some o → ∃ o', L2.upd (L2.upd H1 d (exd d [(f, v)])) a (exq a C (some d) t) b = some o' := fun b o z => ⟨o, by rw [upd_ne (ne_of_none z na), upd_ne (ne_of_none z nd)]; exact z⟩
      have fa : ¬ AvE Bq e1 σ a := fun z => R1.free na (AvE.mono (fun a z => addBs_sub a z) _ z)
      have fd : ¬ AvE Bq e1 σ d := fun z => R1.free nd (AvE.mono (fun a z => addBs_sub a z) _ z)
      exact h1 _ _ ((R1.weak fun a z => addBs_sub a z).keep k dm) (RD.exc1 (fs := [(f, v)]) (ds := [(f, _)]) hn upd_same fa (by rw [upd_ne ne, upd_same]) fd rfl (.cons (t1.keep (fun _ z => z) (A := fun _ => False) (fun _ z => z.elim) k) .nil)) (P1.trans (Post.kept k dm)) trivial
  · exact h1.elim
theorem de_sup {x : Str} {p : Pos} {k : Nat} (T : SupF X.prog X.K X.mg C fI cc cda qual f st B newId i bmB) (Tx : SupTx st f a e0) (FN : NewF newId bmB) (FI : IniF B i) (KF : PySem.W.KxsFacts B i) (hr : Room (k + 1) X.A) (hgu : X.A.guards = some [])
    (se : ∀ env : Env, starEach [e0] env = [(false, eval e0 env)]) (hA : ArgAll X.prog X.w st qual fI cc cda a e0 Ok) (hV : ∀ (pins : List (Addr × Obj)) (σ : L2.St) (H : Hp) (s : Shared) (c : DCtx) (Av : Addr → Prop) (d : D) (v : V) (u : Value), Inv X pins σ H s → c.K = X.K → RT c.K c.mg Av H v d → ok d = true → RelV v u → Ok s.heap u)  (gC : X.mg x = some (.ref C)) (hmg : c.mg = X.mg) (hK : c.K = X.K) (hg : Gl X x) (ha : DA X c W [e] ma)
    (hs : starEach [e] X.env = (false, eval e X.env) :: starEach [] X.env := by rfl) (hdb : (x == ("__debug__" : Str)) = false := by decide) : DE X c W (.Call (.Name x p) [e] [] pos) (mSup ok x f ma) :=
  let ⟨_, p1, r1⟩ := ha.ex; ⟨_, pe_sup T Tx FN FI KF hr hgu se hA hV gC hg p1 hs hdb, by rw [← hK]; exact ref_sup (by rw [hmg]; exact gC) r1⟩
end
end Q

set_option linter.all false
set_option maxRecDepth 100000
set_option maxHeartbeats 4000000
namespace Q
open PySem PySem.Spec PyProof.Rows L2
/-! ### comprehensions, for a text -/
def teOf (c : DCtx) (W : WX) (m : ME) : TE := fun σ H Q => ∃ B env, REnv c B env σ H ∧ Goal c W B env σ H Q (m env)
def ttOf (c : DCtx) (W : WX) (m : MT) : TT := fun σ H Q => ∃ B env, REnv c B env σ H ∧ GoalT c W B env σ H Q (m env)
def tgOf (c : DCtx) (sl : List Nat) (b : MG) : TG := fun v σ H Q => ∃ B env d, REnv c B env σ H ∧ RD c.K c.mg (AvE B env σ) H v d ∧ (match b d env with
  | some e' => ∀ σ', REnv c B e' σ' H → GPost sl env σ H e' σ' → Q σ' H
  | none => False)
section
variable {X : Cx} {c : DCtx} {W : WX} {pos : Pos} {a b e : Expr} {es : List Expr} {ma mb m : ME} {mt mu : MT}
theorem DE.at (h : DE X c W e m) : PE X e (teOf c W m) := let ⟨_, p, r⟩ := h.ex; ⟨fun pins s σ H Q I ⟨B, env, R, G⟩ => p.run pins s σ H Q I (r B env σ H Q R G)⟩
theorem DT.at (h : DT X c W e mt) : PT X e (ttOf c W mt) := let ⟨_, p, r⟩ := h.ex; ⟨fun pins s σ H Q I ⟨B, env, R, G⟩ => p.run pins s σ H Q I (r B env σ H Q R G)⟩
theorem DG.at {tg : Expr} {sl : List Nat} {g : MG} (h : DG X c tg sl g) : PG X tg (tgOf c sl g) := let ⟨_, p, r⟩ := h.ex; ⟨fun pins s σ H v u Q I rv ⟨B, env, d, R, V, G⟩ => p.run pins s σ H v u Q I rv (r B env σ H v d Q R V G)⟩
theorem ref_of : Ref c W (teOf c W m) m := fun B env _ _ _ R G => ⟨B, env, R, G⟩
theorem refT_of : RefT c W (ttOf c W mt) mt := fun B env _ _ _ R G => ⟨B, env, R, G⟩
theorem refG_of {sl : List Nat} {g : MG} : RefG c sl (tgOf c sl g) g := fun B env _ _ _ d _ R V G => ⟨B, env, d, R, V, G⟩
/-- the tests of a comprehension's clause -/
structure DTs (X : Cx) (c : DCtx) (W : WX) (ifs : List Expr) (m : MT) : Prop where
  ex : PTs X ifs (ttOf c W m)
def mYes : MT := fun e => .ok true e
theorem dts_nil : DTs X c W [] mYes := ⟨⟨fun pins s σ H Q I ⟨B, env, R, G⟩ => pts_nil.run pins s σ H Q I (G H R Post.refl)⟩⟩
theorem dts_one (h : DT X c W a mt) : DTs X c W [a] mt := ⟨pts_one h.at⟩
theorem dgs_cons {tg : Expr} {tgs : List Expr} {sl sl' : List Nat} {g : MG} {gs : List D → DEnv → Option DEnv} (h : DG X c tg sl g) (h' : DGs X c tgs sl' gs)
    (hs : (assignEach (tg :: tgs) X.env).map (·.2) = assign tg X.env :: (assignEach tgs X.env).map (·.2) := by rfl) : DGs X c (tg :: tgs) (sl ++ sl') (bCons g gs) := let ⟨_, p1, r1⟩ := h.ex; let ⟨_, p2, r2⟩ := h'.ex; ⟨_, pgs_cons p1 p2 hs, refGs_cons r1 r2⟩
theorem dg_tup {tgs : List Expr} {k n : Nat} {sl : List Nat} {gs : List D → DEnv → Option DEnv} (hK : c.K = X.K) (hc : X.calm = true) (h : DGs X c tgs sl gs)
    (hn : (assignEach tgs X.env).length = n := by rfl) (hst : (assignEach tgs X.env).findIdx? (·.1) = none := by rfl) : DG X c (.Tuple tgs k pos) sl (bTup n gs) := let ⟨_, p, r⟩ := h.ex; ⟨_, pg_tup hc p hn hst, by rw [← hK]; exact refG_tup r⟩
abbrev BlkAll (X : Cx) (scope : Scope) (P : Cx → Prop) : Prop := ∀ (s : Shared) (H : Hp) (C : Addr) (cl : List (Str × Addr)) (fp : List Addr), P (X.blk s H scope (compEnvC scope cl C X.env) fp)
theorem de_lc {elt tg iter : Expr} {ifs : List Expr} {scope : Scope} {own : List (Str × Nat)} {mi : MI} {g : MG} {sl : List Nat} (hc : X.calm = true) (hN : X.N.Nodup) (hi : DI X c W tg iter mi) (ok : BlkOk X.N X.env.scope scope own)
    (hg : ∀ (s : Shared) (H : Hp) (C : Addr) (cl : List (Str × Addr)) (fp : List Addr), DG (X.blk s H scope (compEnvC scope cl C X.env) fp) c tg sl g) (ht : ∀ (s : Shared) (H : Hp) (C : Addr) (cl : List (Str × Addr)) (fp : List Addr), DTs (X.blk s H scope (compEnvC scope cl C X.env) fp) c WF ifs mt)
    (he : ∀ (s : Shared) (H : Hp) (C : Addr) (cl : List (Str × Addr)) (fp : List Addr), DE (X.blk s H scope (compEnvC scope cl C X.env) fp) c WF elt m) (hsl : ∀ j ∈ sl, j ∈ own.map (·.2)) (hs : ∀ x, foldedSetIterable iter X.env x = pure x := by intro _; rfl) :
    DE X c W (.ListComp elt [⟨tg, iter, ifs, 0⟩] scope pos) (mLc mi g mt m (own.map (·.2))) := let ⟨_, p, r⟩ := hi.ex
  ⟨_, pe_lc hc hN p ok (fun s H C cl fp => (hg s H C cl fp).at) (fun s H C cl fp => (ht s H C cl fp).ex) (fun s H C cl fp => (he s H C cl fp).at) hs, ref_lc r refG_of hsl refT_of ref_of⟩
theorem ds_setLc (ow : Bool) (i : Nat) {y : Str} {py spos : Pos} {elt tg iter : Expr} {ifs : List Expr} {scope : Scope} {own : List (Str × Nat)} {mi : MI} {g : MG} {sl : List Nat} (hc : X.calm = true) (hN : X.N.Nodup) (hio : ∀ q ∈ c.io, q.1 ≠ i) (hi : DI X c W tg iter mi) (ok : BlkOk X.N X.env.scope scope own)
    (hg : ∀ (s : Shared) (H : Hp) (C : Addr) (cl : List (Str × Addr)) (fp : List Addr), DG (X.blk s H scope (compEnvC scope cl C X.env) fp) c tg sl g) (ht : ∀ (s : Shared) (H : Hp) (C : Addr) (cl : List (Str × Addr)) (fp : List Addr), DTs (X.blk s H scope (compEnvC scope cl C X.env) fp) c WF ifs mt)
    (he : ∀ (s : Shared) (H : Hp) (C : Addr) (cl : List (Str × Addr)) (fp : List Addr), DE (X.blk s H scope (compEnvC scope cl C X.env) fp) c WF elt m) (hsl : ∀ j ∈ sl, j ∈ own.map (·.2))
    (hsw : swapsWith (.ListComp elt [⟨tg, iter, ifs, 0⟩] scope pos) (some (.Name y py)) spos.line X.env = pure true) (hy : X.N[i]? = some y := by rfl) (hyl : X.env.scope.names.lookup y = some .local := by rfl) (hs : ∀ x, foldedSetIterable iter X.env x = pure x := by intro _; rfl) :
    DS X c W (.Assign [.Name y py] (.ListComp elt [⟨tg, iter, ifs, 0⟩] scope pos) spos) (mSet ow i (mLc mi g mt m (own.map (·.2)))) := let ⟨_, p, r⟩ := hi.ex
  ⟨_, ps_setLc hc hN hy hyl hsw p ok (fun s H C cl fp => (hg s H C cl fp).at) (fun s H C cl fp => (ht s H C cl fp).ex) (fun s H C cl fp => (he s H C cl fp).at) hs, refS_set (ref_lc r refG_of hsl refT_of ref_of) hio⟩
end
/-! ### dicts with texts as keys -/
def isS (k : Str) : D → Bool
  | .str x => decide (x = k)
  | _ => false
def getS (ds : List (D × D)) (k : Str) : Option D := (ds.find? fun p => isS k p.1).map (·.2)
def putS (ds : List (D × D)) (k : Str) (v : D) : List (D × D) := if (ds.any fun p => isS k p.1) = true then ds.map (fun p => if isS k p.1 = true then (p.1, v) else p) else ds ++ [(.str k, v)]
theorem isS_key {k : Key} {x : Str} : isS x (keyD k) = decide (k = .inr x) := by
  cases k with
  | inl i => simp [keyD, isS]
  | inr y => simp [keyD, isS]
section
variable {K : PySem.W.Frag} {mg : Str → Option Value} {Av Av' : Addr → Prop} {H H' : Hp}
inductive RKs (K : PySem.W.Frag) (mg : Str → Option Value) (Av : Addr → Prop) (H : Hp) : List (Key × V) → List (D × D) → Prop
  | nil : RKs K mg Av H [] []
  | cons {k : Key} {v : V} {d : D} {kvs : List (Key × V)} {ds : List (D × D)} : RD K mg Av H v d → RKs K mg Av H kvs ds → RKs K mg Av H ((k, v) :: kvs) ((keyD k, d) :: ds)
theorem rks_of : ∀ {kvs : List (Key × V)} {ds : List (D × D)}, ds.map (·.1) = kvs.map (keyD ·.1) → RDs K mg Av H (kvs.map (·.2)) (ds.map (·.2)) → RKs K mg Av H kvs ds
  | [], [], _, _ => .nil
  | [], _ :: _, h, _ => by cases h
  | _ :: _, [], h, _ => by cases h
  | (k, v) :: kvs, (kd, d) :: ds, h, r => by
    have h' := List.cons.inj h
    have hk : kd = keyD k := h'.1
    subst hk
    cases r with
    | cons r1 r2 => exact .cons r1 (rks_of h'.2 r2)
theorem RKs.to {kvs : List (Key × V)} {ds : List (D × D)} (h : RKs K mg Av H kvs ds) : ds.map (·.1) = kvs.map (keyD ·.1) ∧ RDs K mg Av H (kvs.map (·.2)) (ds.map (·.2)) := by
  induction h with
  | nil => exact ⟨rfl, .nil⟩
  | cons a _ ih => exact ⟨by rw [List.map_cons, List.map_cons, ih.1], .cons a ih.2⟩
theorem RKs.get {kvs : List (Key × V)} {ds : List (D × D)} (h : RKs K mg Av H kvs ds) (k : Str) : (∃ v d, valV kvs (.inr k) = some v ∧ getS ds k = some d ∧ RD K mg Av H v d) ∨ (valV kvs (.inr k) = none ∧ getS ds k = none) := by
  induction h with
  | nil => exact .inr ⟨rfl, rfl⟩
  | @cons q v d kvs ds a t ih =>
    by_cases hk : q = .inr k
    · refine .inl ⟨v, d, valV_pos hk, ?_, a⟩
      unfold getS
      rw [List.find?_cons_of_pos (by rw [isS_key]; exact decide_eq_true hk)]
      rfl
    · rw [valV_neg hk]
      unfold getS
      rw [List.find?_cons_of_neg (by rw [isS_key]; simpa using hk)]
      exact ih
theorem RKs.any {kvs : List (Key × V)} {ds : List (D × D)} (h : RKs K mg Av H kvs ds) (k : Str) : (kvs.any fun kv => decide (kv.1 = Sum.inr k)) = ds.any fun p => isS k p.1 := by
  induction h with
  | nil => rfl
  | cons a t ih => rw [List.any_cons, List.any_cons, ih, isS_key]
theorem RKs.repl {kvs : List (Key × V)} {ds : List (D × D)} (h : RKs K mg Av H kvs ds) (k : Str) {v : V} {d : D} (hv : RD K mg Av H v d) : RKs K mg Av H (kvs.map fun kv => if kv.1 = Sum.inr k then (kv.1, v) else kv) (ds.map fun p => if isS k p.1 = true then (p.1, d) else p) := by
  induction h with
  | nil => exact .nil
  | @cons q v' d' kvs ds a t ih =>
    rw [List.map_cons, List.map_cons]
    by_cases hk : q = .inr k
    · rw [if_pos (by exact hk), if_pos (by rw [isS_key]; exact decide_eq_true hk)]
      exact .cons hv ih
    · rw [if_neg (by exact hk), if_neg (by rw [isS_key]; simpa using hk)]
      exact .cons a ih
theorem RKs.snoc {kvs : List (Key × V)} {ds : List (D × D)} (h : RKs K mg Av H kvs ds) (k : Key) {v : V} {d : D} (hv : RD K mg Av H v d) : RKs K mg Av H (kvs ++ [(k, v)]) (ds ++ [(keyD k, d)]) := by
  induction h with
  | nil => exact .cons hv .nil
  | cons a t ih => exact .cons a ih
theorem RKs.put {kvs : List (Key × V)} {ds : List (D × D)} (h : RKs K mg Av H kvs ds) (k : Str) {v : V} {d : D} (hv : RD K mg Av H v d) : RKs K mg Av H (putK kvs (.inr k) v) (putS ds k d) := by
  unfold putK putS
  rw [h.any k]
  by_cases hk : (ds.any fun p => isS k p.1) = true
  · rw [if_pos hk, if_pos hk]; exact h.repl k hv
  · rw [if_neg hk, if_neg hk]; exact h.snoc (.inr k) hv
theorem RKs.length {kvs : List (Key × V)} {ds : List (D × D)} (h : RKs K mg Av H kvs ds) : kvs.length = ds.length := by
  induction h with
  | nil => rfl
  | cons _ _ ih => simp [ih]
theorem own_dct {p : Addr} {ds : List (D × D)} (h : Own K mg Av H p (.dct ds)) : ∃ kvs, H p = some (.dK kvs) ∧ RKs K mg Av H kvs ds := let ⟨kvs, h1, h2, h3⟩ := h; ⟨kvs, h1, rks_of h2 h3⟩
end
/-! x[k] = e -/
section
variable {c : DCtx} {W : WX} {X : Cx}
/-- x[k1], x[k2], .. = (e1, e2, ..), x a dict of one's own, the keys texts -/
def putsS (ds : List (D × D)) : List Str → List D → List (D × D)
  | k :: ks, v :: vs => putsS (putS ds k v) ks vs
  | _, _ => ds
def mParD (i n : Nat) (ks : List Str) (m : ME) : MS := fun env => (m env).bind fun x e => match x, e[i]? with
  | .sh (.tup vs), some (.own (.dct ds)) => if ds.length + n < sizeLine ∧ vs.length = n ∧ ks.length = n then .ok .nx (e.set i (.own (.dct (putsS ds ks vs)))) else .stuck
  | _, _ => .stuck
def gsD (i : Nat) : List Str → TGs
  | [] => gNil
  | k :: ks => gCons (gSub (tVar i) (tC (.str k)) rSetD) (gsD i ks)
theorem putS_len (ds : List (D × D)) (k : Str) (v : D) : (putS ds k v).length ≤ ds.length + 1 := by
  unfold putS
  split
  · rw [List.length_map]; omega
  · rw [List.length_append]; exact Nat.le_refl _
theorem gsD_ok {B : Addr → Prop} {i : Nat} {σ : L2.St} {p : Addr} (hp : σ[i]? = some (some (V.ref p))) : ∀ (ks : List Str) (vs : List V) (es : List D) (ds : List (D × D)) (env : DEnv) (H : Hp) (Q : L2.St → Hp → Prop), REnv c B env σ H → env[i]? = some (DSlot.own (.dct ds)) → RDs c.K c.mg (AvE B env σ) H vs es →
    ds.length + ks.length < sizeLine → ks.length = es.length → (∀ H', REnv c B (env.set i (.own (.dct (putsS ds ks es)))) σ H' → Post env σ H (env.set i (.own (.dct (putsS ds ks es)))) H' → Q σ H') → gsD i ks vs σ H Q
  | [], vs, es, ds, env, H, Q, R, hi, rv, hl, he, h => by
    cases rv with
    | cons _ _ => cases he
    | nil =>
      have e0 : env.set i (.own (.dct ds)) = env := by
        apply List.ext_getElem?
        intro j
        by_cases hj : i = j
        · subst hj
          rw [List.getElem?_set_self (List.getElem?_eq_some_iff.mp hi).1, hi]
        · rw [List.getElem?_set_ne hj]
      have h' := h H
      have : putsS ds [] [] = ds := rfl
      rw [this, e0] at h'
      exact ⟨rfl, h' R Post.refl⟩
  | k :: ks, vs, es, ds, env, H, Q, R, hi, rv, hl, he, h => by
    cases rv with
    | nil => cases he
    | @cons v d vs es r1 r2 =>
      obtain ⟨q, hq, _, ho⟩ := R.own i _ hi
      rw [hp] at hq; cases hq
      obtain ⟨kvs, hk, rk⟩ := own_dct ho
      refine ⟨v, vs, rfl, .ref p, hp, p, _, rfl, DPut.k (k := .inr k) hk (by rw [rk.length]; simp at hl; omega), ?_⟩
      have hA : AvE B env σ p := .inr ⟨i, ⟨_, hi⟩, hp⟩
      have kp : Kep (fun a => a = p) H (L2.upd H p (.dK (putK kvs (.inr k) v))) := Kep.put rfl
      have rk' : RKs c.K c.mg (AvE B env σ) (L2.upd H p (.dK (putK kvs (.inr k) v))) (putK kvs (.inr k) v) (putS ds k d) := by
        have z := (rk.put k r1).to
        exact rks_of z.1 (z.2.keep (fun _ z => z) (A := fun a => a = p) (fun a z => by rw [z]; exact hA) kp)
      obtain ⟨R', P'⟩ := R.write (d1 := .dct (putS ds k d)) (o := .dK (putK kvs (.inr k) v)) hi hp ⟨_, upd_same, rk'.to⟩
      have hl' : i < env.length := (List.getElem?_eq_some_iff.mp hi).1
      refine gsD_ok hp ks vs es (putS ds k d) _ _ Q R' (List.getElem?_set_self hl') (r2.keep (fun a z => (P'.av a).mp z) (A := fun a => a = p) (fun a z => by rw [z]; exact hA) kp) (by have := putS_len ds k d; simp at hl; omega) (by simpa using he) fun H' R2 P2 => ?_
      have es' : (env.set i (DSlot.own (.dct (putS ds k d)))).set i (.own (.dct (putsS (putS ds k d) ks es))) = env.set i (.own (.dct (putsS ds (k :: ks) (d :: es)))) := by rw [List.set_set]; rfl
      rw [es'] at R2 P2
      exact h H' R2 (P'.trans P2)
theorem refS_parD {i n : Nat} {ks : List Str} {te : TE} {m : ME} (ha : Ref c W te m) : RefS c W (tAsg te (gTup c.K n (gsD i ks))) (mParD i n ks m) := by
  intro B env σ H Dn R g
  refine ha B env σ H _ R (GoalS.next Post.refl (fun _ z => z) g fun x e1 v H1 R1 V1 P1 _ g1 => ?_)
  split at g1
  · rename_i vs ds hi _
    by_cases hc : ds.length + n < sizeLine ∧ vs.length = n ∧ ks.length = n
    · rw [if_pos hc] at g1
      obtain ⟨h1, h2, h3⟩ := hc
      obtain ⟨p, hp, _, _⟩ := R1.own i _ hi
      have fin : ∀ (us : List V), RDs c.K c.mg (AvE B e1 σ) H1 us vs → gsD i ks us σ H1 Dn.nx := fun us ru => gsD_ok hp ks us vs ds e1 H1 Dn.nx R1 hi ru (by omega) (by omega) fun H' R' P' => g1 σ H' R' (PostS.of (P1.trans P'))
      cases (show RD c.K c.mg (AvE B e1 σ) H1 v (.tup vs) from V1) with
      | tup k1 k2 k3 => exact ⟨_, _, rfl, .inl k1, by rw [k3.length]; exact h2, fin _ k3⟩
      | tupK k1 k3 => exact ⟨_, _, rfl, .inr k1, by rw [k3.length]; exact h2, fin _ k3⟩
    · rw [if_neg hc] at g1; exact g1.elim
  · exact g1.elim
end
end Q

set_option linter.all false
set_option maxRecDepth 100000
set_option maxHeartbeats 4000000
namespace Q
open PySem PySem.Spec PyProof.Rows L2
/-! ### repr, format -/
/-- no container -/
def D.sc : D → Bool
  | .non => true
  | .bl _ => true
  | .int _ => true
  | .str _ => true
  | _ => false
/-- what repr is told of: data without dicts, or a dict of plain values -/
def D.low (d : D) : Bool := d.flat || (match d with
  | .dct kvs => kvs.all fun p => p.2.sc
  | _ => false)
def D.shows (d : D) : Bool := d.low && d.py.showable && decide (d.py.depth ≤ 40) && decide (d.py.shown.length + 100 ≤ sizeLine) && (match d with
  | .str x => decide (x.length + 100 ≤ sizeLine)
  | _ => true)
def reprD : List D → OR
  | [d] => if d.shows = true then .sh (.str d.py.shown) else .stuck
  | _ => .stuck
section
variable {X : Cx} {pins : List (Addr × Obj)} {σ : L2.St} {H : Hp} {s : Shared} {c : DCtx} {Av : Addr → Prop}
theorem hasDict_flat : ∀ {d : D}, d.flat = true → d.py.hasDict = false := by
  intro d
  refine D.rec (motive_1 := fun d => d.flat = true → d.py.hasDict = false) (motive_2 := fun ds => flatAll ds = true → PyData.hasDictAll (pyAll ds) = false) (motive_3 := fun _ => True) (motive_4 := fun _ => True) (motive_5 := fun _ => True) (motive_6 := fun _ => True) ?_ ?_ ?_ ?_ ?_ ?_ ?_ ?_ ?_ ?_ ?_ ?_ ?_ ?_ ?_ ?_ ?_ ?_ d
  all_goals first
    | exact fun _ => rfl
    | exact fun _ _ => rfl
    | (intro ds ih h; exact ih h)
    | (intro _ _ h; exact Bool.noConfusion h)
    | (intro _ h; exact Bool.noConfusion h)
    | (intro _ _ _ h; exact Bool.noConfusion h)
    | (intro _ _ _ _ h; exact Bool.noConfusion h)
    | exact trivial
    | (intros; trivial)
    | (intro d ds i1 i2 h
       have h' := (Bool.and_eq_true _ _).mp h
       show (d.py.hasDict || PyData.hasDictAll (pyAll ds)) = false
       rw [i1 h'.1, i2 h'.2]; rfl)
theorem reads_sc {d : D} {v : V} {u : Value} (h : RD c.K c.mg Av H v d) (hs : d.sc = true) (r : RelV v u) {hp : Heap} : Reads hp u d.py [] := by
  cases h with
  | non => cases (show u = Value.none from r); exact .none
  | bl b => cases (show u = Value.bool b from r); exact .bool b
  | int i => obtain ⟨t, rfl⟩ := r; exact .int i t
  | str x => obtain ⟨t, rfl⟩ := r; exact .str x t
  | _ => exact Bool.noConfusion hs
theorem reads_dct {hp : Heap} {knd : PySem.KeyKind X.prog X.w Key} (hk : knd = mixKind X.prog X.w) : ∀ {es : List DictEntry} {vs : List (Key × Value)} {kvs : List (Key × V)} {ds : List (D × D)}, Pairs knd es vs → KV kvs vs → RKs c.K c.mg Av H kvs ds → (ds.all fun p => p.2.sc) = true →
    ReadsAll hp (es.map (·.key)) ((pyKv ds).map (·.1)) [] ∧ ReadsAll hp (es.map (·.val)) ((pyKv ds).map (·.2)) []
  | _, _, _, _, .nil, .nil, .nil, _ => ⟨.nil, .nil⟩
  | _, _, _, _, .cons k1 k2 k3, .cons r1 r2, .cons a t, hs => by
    have hs' := (Bool.and_eq_true _ _).mp hs
    obtain ⟨i1, i2⟩ := reads_dct hk k3 r2 t hs'.2
    subst hk
    obtain ⟨re, rv⟩ := r1
    refine ⟨ReadsAll.cons (as := []) (bs := []) ?_ i1, ReadsAll.cons (as := []) (bs := []) ?_ i2⟩
    · rcases keyIs_shape k1 with ⟨i, t, e1, e2⟩ | ⟨x, t, e1, e2⟩
      · rw [e1] at re
        dsimp only at re ⊢
        rw [e2, re]; exact .int i t
      · rw [e1] at re
        dsimp only at re ⊢
        rw [e2, re]; exact .str x t
    · dsimp only
      rw [k2]; exact reads_sc a hs'.1 rv
/-- what is shown reads in the heap, none of it the table of modules -/
theorem reads_low {d : D} {v : V} {u : Value} (I : Inv X pins σ H s) (hK : c.K = X.K) (h : RT c.K c.mg Av H v d) (hl : d.low = true) (r : RelV v u) : ∃ as, Reads s.heap u d.py as ∧ (d.py.hasDict = true → sysModules ∉ as) := by
  by_cases hf : d.flat = true
  · obtain ⟨as, ra⟩ := Dp.reads I d.py v u (by rw [← hK]; exact h.dp hf) r
    exact ⟨as, ra, fun z => by rw [hasDict_flat hf] at z; cases z⟩
  · unfold D.low at hl
    rw [Bool.eq_false_iff.mpr hf, Bool.false_or] at hl
    cases h with
    | @dct a kvs ds h1 h2 h3 =>
      have hl : (ds.all fun p => p.2.sc) = true := hl
      cases (show u = Value.ref a from r)
      obtain ⟨_, hsm, vs, kv, o, es, ep, ho, hex, hdat, _, hp, _⟩ := dk_of I.hok h1
      obtain ⟨i1, i2⟩ := reads_dct (hp := s.heap) rfl hp kv (rks_of h2 h3) hl
      refine ⟨[a], Reads.dict (as := []) (bs := []) ho hex.1 hdat i1 i2, fun _ z => ?_⟩
      rw [List.mem_singleton] at z
      rw [z] at hsm
      simp at hsm
    | _ => exact Bool.noConfusion hl
/-- a value is shown -/
theorem repr_at {d : D} {v : V} {u : Value} {Q : Value → Shared → Prop} (I : Inv X pins σ H s) (hK : c.K = X.K) (h : RT c.K c.mg Av H v d) (hs : d.shows = true) (r : RelV v u) (hg : X.A.guards = some []) (hu : X.A.units + 64 < cLine)
    (hQ : ∀ h' t tk, (∀ b o, s.heap.get? b = some o → h'.get? b = some o) → Q (.str d.py.shown t) { s with heap := h', toks := tk }) : wpAny (model X.prog X.w) X.A (call (.builtin "repr") [u]) Q X.xe s := by
  unfold D.shows at hs
  simp only [Bool.and_eq_true, decide_eq_true_eq] at hs
  obtain ⟨⟨⟨⟨hl, hsh⟩, hdp⟩, hln⟩, hstr⟩ := hs
  obtain ⟨as, ra, hsm⟩ := reads_low I hK h hl r
  have kk : ∀ b o, s.heap.get? b = some o → s.heap.get? b = some o := fun _ _ z => z
  generalize d.py = p at ra hsm hsh hdp hln hQ
  cases ra with
  | none => exact PySem.P.repr_of_none (hQ s.heap _ _ kk)
  | bool b => exact PySem.P.repr_of_bool (hQ s.heap _ _ kk)
  | int i t =>
    exact PySem.P.repr_of_int (of_decide_eq_true hsh) (hQ s.heap _ _ kk)
  | str x t =>
    exact PySem.P.repr_of_str (hQ s.heap _ _ kk) (by show (PyData.shown (.str x)).length ≤ _; omega)
  | list a1 a2 a3 a4 => exact repr_of_reads' (.list a1 a2 a3 a4) hsh hsm hg (by omega) kk (fun h' t tk k => hQ h' t tk k) (by omega)
  | tuple a1 a2 a3 a4 => exact repr_of_reads' (.tuple a1 a2 a3 a4) hsh hsm hg (by omega) kk (fun h' t tk k => hQ h' t tk k) (by omega)
  | dict a1 a2 a3 a4 a5 => exact repr_of_reads' (.dict a1 a2 a3 a4 a5) hsh hsm hg (by omega) kk (fun h' t tk k => hQ h' t tk k) (by omega)
theorem cr_repr (hg : X.A.guards = some []) (hu : X.A.units + 64 < cLine) (hK : c.K = X.K) : CallR X (.builtin "repr") (rDN c reprD) := by
  intro pins s σ H xs us Q I r g
  obtain ⟨Av, ds, T, g⟩ := g
  unfold reprD at g
  split at g
  · rename_i d
    by_cases hs : d.shows = true
    · rw [if_pos hs] at g
      cases T with
      | cons t1 t2 =>
        cases t2
        cases r with
        | cons ru rn =>
          cases rn
          exact repr_at I hK t1 hs ru hg hu fun h' t tk k => ⟨.str d.py.shown, H, I.kept (t' := tk) k, ⟨t, rfl⟩, g _ (.str _)⟩
    · rw [if_neg hs] at g; exact g.elim
  · exact g.elim
end
/-- what an f-string can show -/
def OkShow (h : Heap) (u : Value) : Prop := ∃ p as, Reads h u p as ∧ p.showable = true ∧ (p.hasDict = true → sysModules ∉ as) ∧ p.depth ≤ 40 ∧ p.shown.length + 100 ≤ sizeLine ∧ ∀ x t, u = .str x t → x.length + 100 ≤ sizeLine
theorem okShow_of {X : Cx} (pins : List (Addr × Obj)) (σ : L2.St) (H : Hp) (s : Shared) (c : DCtx) (Av : Addr → Prop) (d : D) (v : V) (u : Value) (I : Inv X pins σ H s) (hK : c.K = X.K) (h : RT c.K c.mg Av H v d) (hs : d.shows = true) (r : RelV v u) : OkShow s.heap u := by
  unfold D.shows at hs
  simp only [Bool.and_eq_true, decide_eq_true_eq] at hs
  obtain ⟨⟨⟨⟨hl, hsh⟩, hdp⟩, hln⟩, hstr⟩ := hs
  obtain ⟨as, ra, hsm⟩ := reads_low I hK h hl r
  refine ⟨_, as, ra, hsh, hsm, hdp, hln, fun x t e => ?_⟩
  subst e
  cases h with
  | str y =>
    obtain ⟨t', e⟩ := r
    cases e
    exact of_decide_eq_true hstr
  | non => cases r
  | bl b => cases r
  | int i => obtain ⟨t', e⟩ := r; cases e
  | _ => cases r
theorem fmt_at {prog : Program} {w : World} {A : Around} {E : Value → Shared → Prop} {Q : Value → Shared → Prop} {s : Shared} {h₀ : Heap} {u : Value} (hk : ∀ b o, h₀.get? b = some o → s.heap.get? b = some o) (ho : OkShow h₀ u) (hg : A.guards = some []) (hu : A.units + 100 < cLine)
    (hQ : ∀ (y : Str) h' t tk, y.length + 100 ≤ sizeLine → (∀ b o, s.heap.get? b = some o → h'.get? b = some o) → Q (.str y t) { s with heap := h', toks := tk }) : wpAny (model prog w) A (formatField u Str.empty) Q E s := by
  obtain ⟨p, as, ra, hsh, hsm, hdp, hln, hstr⟩ := ho
  have kk : ∀ b o, s.heap.get? b = some o → s.heap.get? b = some o := fun _ _ z => z
  cases ra with
  | none => exact wpAny_formatField_none (hQ _ s.heap _ _ hln kk)
  | bool b => exact wpAny_formatField_bool (hQ _ s.heap _ _ hln kk)
  | int i t => exact wpAny_formatField_int (of_decide_eq_true hsh) (hQ (toString i) s.heap _ _ hln kk)
  | str x t =>
    have hx := hstr x t rfl
    exact wpAny_formatField_str (hQ x s.heap _ _ hx kk) (hQ x s.heap _ _ hx kk) (by omega)
  | list a1 a2 a3 a4 => exact formatField_of_reads (.list a1 a2 a3 a4) hsh hsm hg (by omega) hk (fun h' t tk k => hQ _ h' t tk hln k) (by omega)
  | tuple a1 a2 a3 a4 => exact formatField_of_reads (.tuple a1 a2 a3 a4) hsh hsm hg (by omega) hk (fun h' t tk k => hQ _ h' t tk hln k) (by omega)
  | dict a1 a2 a3 a4 a5 => exact formatField_of_reads (.dict a1 a2 a3 a4 a5) hsh hsm hg (by omega) hk (fun h' t tk k => hQ _ h' t tk hln k) (by omega)
theorem argok_fline {prog : Program} {w : World} {st : Stmt} {qual : Str} {fI cc cda : Addr} {a lead : Str} {j : Nat} {p1 p2 p3 p4 : Pos} (hk : (defScope st).kind = .function) (hl : (defScope st).names.lookup a = some .local) (hd : (a == ("__debug__" : Str)) = false) (hle : lead.length ≤ 50) :
    ArgAll prog w st qual fI cc cda a (.JoinedStr [.Constant (.str lead) j p1, .FormattedValue (.Name a p2) (-1) none p3] p4) OkShow := by
  intro h₀ L x v hok A E news s Q hg hu F N h
  have ee : evalEach [Expr.Constant (.str lead) j p1, .FormattedValue (.Name a p2) (-1) none p3] (PySem.W.ksEnv qual (defScope st) L fI (.ref cda) cc) = [eval (.Constant (.str lead) j p1) (PySem.W.ksEnv qual (defScope st) L fI (.ref cda) cc), eval (.FormattedValue (.Name a p2) (-1) none p3) (PySem.W.ksEnv qual (defScope st) L fI (.ref cda) cc)] := by first | rfl | simp [evalEach]
  refine wpAny_JoinedStr ?_
  rw [ee]
  have l1 : (Str.empty ++ lead).length ≤ 50 := by rw [Str.length_append]; show 0 + lead.length ≤ 50; omega
  refine wpAny_Constant_str ⟨lead, _, rfl, by have : sizeLine = 16777216 := sizeLine_eq; omega, ?_⟩
  refine wpAny_FormattedValue_plain (ldA (env := PySem.W.ksEnv qual (defScope st) L fI (.ref cda) cc) F.ns (v := v) (by simp [List.lookup_cons]) hk hl hd ?_)
  refine fmt_at (h₀ := h₀) F.keep hok hg hu fun y h' t tk hy k => ⟨y, t, rfl, ?_, ?_, ?_⟩
  · rw [Str.length_append]; omega
  · rw [Str.length_append]; omega
  · refine h _ h' _ ⟨F.ns.keeps k, fun b o z => k b o (F.keep b o z), F.above⟩ fun p hp => ?_
    obtain ⟨n1, n2, n3⟩ := N p hp
    exact ⟨k _ _ n1, n2, n3⟩
end Q

set_option linter.all false
set_option maxRecDepth 100000
set_option maxHeartbeats 4000000
namespace Q
open PySem PySem.Spec PyProof.Rows L2
section
variable {X : Cx} {c : DCtx} {W : WX} {pos : Pos} {a b e : Expr} {es : List Expr} {ma mb m : ME} {mr : MA} {mt mu : MT}
theorem OGoal.dct0 {Av : Addr → Prop} {H : Hp} {Q : VK} (g : OGoal c Av H Q (.new (.dct []))) (p : Addr) (hp : H p = none) : Q (.ref p) (L2.upd H p (.dK [])) := g p _ hp (Kep.new hp) (dom_new hp) ⟨[], upd_same, rfl, .nil⟩
/-! ### {k1: e1, ..} with texts as keys -/
def RefP (c : DCtx) (W : WX) (trs : List (TE × TE)) (ks : List Str) (ma : MA) : Prop := ∀ B env σ H (Q : List V → Hp → Prop), REnv c B env σ H → GoalA c W B env σ H Q (ma env) → tPairs trs σ H fun ps H' => ∃ vs, ps = List.zipWith (fun k v => (V.str k, v)) ks vs ∧ vs.length = ks.length ∧ Q vs H'
theorem tPairs_imp {σ : L2.St} {Q Q' : List (V × V) → Hp → Prop} (h : ∀ ps H, Q ps H → Q' ps H) : ∀ {trs : List (TE × TE)} {H : Hp}, (∀ p ∈ trs, (∀ H (R R' : VK), (∀ v H, R v H → R' v H) → p.1 σ H R → p.1 σ H R') ∧ (∀ H (R R' : VK), (∀ v H, R v H → R' v H) → p.2 σ H R → p.2 σ H R')) → tPairs trs σ H Q → tPairs trs σ H Q'
  | [], H, _, q => h _ _ q
  | (tk, tv) :: r, H, m, q => by
    have m0 := m (tk, tv) List.mem_cons_self
    exact m0.1 H _ _ (fun x H1 q1 => m0.2 H1 _ _ (fun y H2 q2 => tPairs_imp (fun ps H3 => h _ _) (fun p hp => m p (List.mem_cons_of_mem _ hp)) q2) q1) q
theorem refP_nil : RefP c W [] [] mNil := fun B env σ H Q R h => ⟨[], rfl, rfl, h [] H R .nil Post.refl⟩
theorem teOf_mono {m : ME} {σ : L2.St} {H : Hp} {R R' : VK} (h : ∀ v H, R v H → R' v H) (q : teOf c W m σ H R) : teOf c W m σ H R' := by
  obtain ⟨B, env, Re, G⟩ := q
  refine ⟨B, env, Re, ?_⟩
  cases hm : m env with
  | ok x e => rw [hm] at G; exact fun v H' R1 V P n => h _ _ (G v H' R1 V P n)
  | exc x e => rw [hm] at G; exact G
  | stuck => rw [hm] at G; exact G
theorem refP_cons {k : Str} {m : ME} {trs : List (TE × TE)} {ks : List Str} {mr : MA} (hmono : ∀ p ∈ trs, ∀ σ, (∀ H (R R' : VK), (∀ v H, R v H → R' v H) → p.1 σ H R → p.1 σ H R') ∧ (∀ H (R R' : VK), (∀ v H, R v H → R' v H) → p.2 σ H R → p.2 σ H R')) (hr : RefP c W trs ks mr) :
    RefP c W ((tC (.str k), teOf c W m) :: trs) (k :: ks) (mCons m mr) := by
  intro B env σ H Q R g
  refine ⟨B, env, R, GoalA.next Post.refl (fun _ z => z) g fun x e1 v H1 R1 V1 P1 h1 => ?_⟩
  refine tPairs_imp (Q := fun ps H' => ∃ vs, ps = List.zipWith (fun k v => (V.str k, v)) ks vs ∧ vs.length = ks.length ∧ Q (v :: vs) H') (fun ps H3 ⟨vs, e, l, q⟩ => ⟨v :: vs, by rw [e]; rfl, by rw [List.length_cons, List.length_cons, l], q⟩) (fun p hp => hmono p hp σ) ?_
  refine hr _ e1 σ H1 _ R1 ?_
  cases hm : mr e1 with
  | stuck => rw [hm] at h1; exact h1
  | exc y e => rw [hm] at h1; exact fun cls dx H' R2 X P2 => h1 cls dx H' (R2.weak addB_sub) (X.mono (AvE.mono addB_sub)) (P1.trans P2)
  | ok xs e => rw [hm] at h1; exact fun vs H' R2 V2 P2 => h1 (v :: vs) H' R2 (.cons (V1.step P2) V2) (P1.trans P2)
/-- keys and values, for a text -/
structure DPs (X : Cx) (c : DCtx) (W : WX) (pos : Pos) (keys : List (Option Expr)) (values : List Expr) (ks : List Str) (ma : MA) : Prop where
  ex : ∃ trs, PPs X pos keys values trs ∧ RefP c W trs ks ma ∧ ∀ p ∈ trs, ∀ σ, (∀ H (R R' : VK), (∀ v H, R v H → R' v H) → p.1 σ H R → p.1 σ H R') ∧ (∀ H (R R' : VK), (∀ v H, R v H → R' v H) → p.2 σ H R → p.2 σ H R')
theorem dps_nil : DPs X c W pos [] [] [] mNil := ⟨[], pps_nil, refP_nil, fun _ z => by cases z⟩
theorem dps_cons {k : Str} {j : Nat} {p : Pos} {v : Expr} {ks : List (Option Expr)} {vs : List Expr} {kk : List Str} (h : DE X c W v m) (hr : DPs X c W pos ks vs kk mr) : DPs X c W pos (some (.Constant (.str k) j p) :: ks) (v :: vs) (k :: kk) (mCons m mr) := by
  obtain ⟨trs, h1, h2, h3⟩ := hr.ex
  refine ⟨_, pps_cons pe_str h.at h1, refP_cons h3 h2, fun p hp σ => ?_⟩
  rcases List.mem_cons.mp hp with rfl | hp
  · exact ⟨fun H R R' z q => z _ _ q, fun H R R' z q => teOf_mono z q⟩
  · exact h3 p hp σ
def mDispS (ks : List Str) (ma : MA) : ME := fun env => (ma env).bind fun xs e => match frees xs with
  | some ds => if ds.length ≤ 15 ∧ ks.Nodup ∧ ds.length = ks.length then .ok (.new (.dct (List.zipWith (fun k d => (D.str k, d)) ks ds))) e else .stuck
  | none => .stuck
def zipK (ks : List Str) (vs : List V) : List (Key × V) := List.zipWith (fun k v => (Sum.inr k, v)) ks vs
theorem merge_fresh : ∀ (ks : List Str) (vs : List V) (acc : List (Key × V)), ks.Nodup → (∀ k ∈ ks, valV acc (.inr k) = none) → mergeK acc (zipK ks vs) = acc ++ zipK ks vs
  | [], vs, acc, _, _ => by simp [zipK, mergeK]
  | k :: ks, [], acc, _, _ => by simp [zipK, mergeK]
  | k :: ks, v :: vs, acc, hn, ha => by
    have hn' := List.nodup_cons.mp hn
    have e1 : putK acc (.inr k) v = acc ++ [(.inr k, v)] := putK_new v (ha k List.mem_cons_self)
    have ih := merge_fresh ks vs (acc ++ [(.inr k, v)]) hn'.2 fun k' hk' => by
      rw [valV_snoc _ _ _ _ (ha k List.mem_cons_self), if_neg (fun z => hn'.1 (by cases z; exact hk'))]
      exact ha k' (List.mem_cons_of_mem _ hk')
    show mergeK (putK acc (.inr k) v) (zipK ks vs) = _
    rw [e1, ih, List.append_assoc]
    rfl
theorem rks_zip {K : PySem.W.Frag} {mg : Str → Option Value} {Av : Addr → Prop} {H : Hp} : ∀ {ks : List Str} {vs : List V} {ds : List D}, RDs K mg Av H vs ds → vs.length = ks.length → RKs K mg Av H (zipK ks vs) (List.zipWith (fun k d => (D.str k, d)) ks ds)
  | [], _, _, .nil, _ => .nil
  | [], _, _, .cons _ _, h => by cases h
  | _ :: _, _, _, .nil, h => by cases h
  | k :: ks, _, _, .cons a t, h => .cons (k := .inr k) a (rks_zip t (by simpa using h))
theorem ref_dispS {trs : List (TE × TE)} {ks : List Str} {ma : MA} (ha : RefP c W trs ks ma) (hmono : ∀ p ∈ trs, ∀ σ, (∀ H (R R' : VK), (∀ v H, R v H → R' v H) → p.1 σ H R → p.1 σ H R') ∧ (∀ H (R R' : VK), (∀ v H, R v H → R' v H) → p.2 σ H R → p.2 σ H R')) : Ref c W (tDisp trs) (mDispS ks ma) := by
  intro B env σ H Q R h p hp
  have R0 : REnv c (fun a => B a ∨ a = p) env σ (L2.upd H p (.dK [])) := R.more hp
  have P0 : Post env σ H env (L2.upd H p (.dK [])) := Post.new hp
  have nO : ¬ OwnS env σ p := fun z => R.free hp (.inr z)
  refine tPairs_imp ?_ (fun q hq => hmono q hq σ) (ha _ env σ _ (fun vs H2 => (vs.length = ks.length → H2 p = some (.dK []) ∧ ∃ kvs : List (Key × V), List.zipWith (fun k v => (V.str k, v)) ks vs = kvs.map (fun kv => (kV kv.1, kv.2)) ∧ kvs.length ≤ 15 ∧ Q (.ref p) (L2.upd H2 p (.dK (mergeK [] kvs))))) R0 ?_)
  · rintro ps H2 ⟨vs, rfl, l, q⟩
    exact q l
  refine Goal.nextA P0 (fun a z => .inl z) h fun xs e1 vs H1 R1 V1 P1 h1 hlen => ?_
  cases ex : frees xs with
  | none => rw [ex] at h1; exact h1.elim
  | some ds =>
    rw [ex] at h1
    dsimp only at h1
    by_cases hc : ds.length ≤ 15 ∧ ks.Nodup ∧ ds.length = ks.length
    · rw [if_pos hc] at h1
      obtain ⟨c1, c2, c3⟩ := hc
      have Vf := V1.free (Bt := fun a => B a ∨ a = p) (fun _ z => z) ex
      have kp : H1 p = some (.dK []) := P1.keep p _ upd_same nO fun _ z => by cases z
      have hz : List.zipWith (fun k v => (V.str k, v)) ks vs = (zipK ks vs).map (fun kv => (kV kv.1, kv.2)) := by
        unfold zipK
        rw [List.map_zipWith]
        rfl
      refine ⟨kp, zipK ks vs, hz, by unfold zipK; rw [List.length_zipWith]; omega, ?_⟩
      rw [merge_fresh ks vs [] c2 fun _ _ => rfl, List.nil_append]
      have R1' : REnv c (fun a => B a ∨ a = p) e1 σ H1 := R1.weak fun a z => addBs_sub a z
      obtain ⟨R2, dm, k2⟩ := R1'.tempPut (p := p) (o := .dK (zipK ks vs)) (.inr rfl) ⟨_, kp⟩ (R.no0 hp)
      have nA : ¬ AvE B e1 σ p := fun z => R.free hp ((P1.av p).mp z)
      have rk := (rks_zip (ks := ks) Vf hlen).to
      refine h1 (.ref p) _ R2 ⟨p, rfl, nA, R.no0 hp, _, upd_same, rk.1, rk.2.keep (fun a z => ?_) (A := fun a => a = p) (fun a z => .inl (.inr z)) k2⟩ ?_ hp
      · exact z
      · refine ⟨P1.own, fun a o ha n t => ?_, fun a o ha => let ⟨o', z⟩ := P0.dom a o ha; let ⟨o2, z2⟩ := P1.dom a o' z; dm a o2 z2⟩
        have ne : a ≠ p := fun z => by rw [z, hp] at ha; cases ha
        rw [upd_ne ne]
        exact P1.keep a o (by rw [upd_ne ne]; exact ha) n t
    · rw [if_neg hc] at h1; exact h1.elim
theorem de_dispS {keys : List (Option Expr)} {values : List Expr} {ks : List Str} (h : DPs X c W pos keys values ks mr) (hall : keys.all (·.isSome) = true) (hl : keys.length = values.length) (h0 : keys ≠ []) (h15 : keys.length ≤ 15) : DE X c W (.Dict keys values pos) (mDispS ks mr) :=
  let ⟨_, p, r, mo⟩ := h.ex; ⟨_, pe_disp p hall hl h0 h15, ref_dispS r mo⟩
/-! ### d.get(k, e) -/
def mGet2 (md mk mx : ME) : ME := fun env => (md env).bind fun x e1 => match x.view e1 with
  | some (.dct ds) => (mk e1).bind fun y e2 => (mx e2).bind fun z e3 => match x.view e3, y.view e3 with
    | some (.dct ds), some (.str k) => match getS ds k with
      | some d => .ok (.sh d) e3
      | none => .ok z e3
    | _, _ => .stuck
  | _ => .stuck
theorem rt_dct {K : PySem.W.Frag} {mg : Str → Option Value} {Av : Addr → Prop} {H : Hp} {v : V} {ds : List (D × D)} (h : RT K mg Av H v (.dct ds)) : ∃ a kvs, v = .ref a ∧ H a = some (.dK kvs) ∧ RKs K mg Av H kvs ds := by
  cases h with
  | dct h1 h2 h3 => exact ⟨_, _, rfl, h1, rks_of h2 h3⟩
theorem ref_get2 {td ty tx : TE} {md mk mx : ME} (hd : Ref c W td md) (hk : Ref c W ty mk) (hx : Ref c W tx mx) : Ref c W (tDGet2 td ty tx) (mGet2 md mk mx) := by
  intro B env σ H Q R h
  refine hd B env σ H _ R (Goal.next Post.refl (fun _ z => z) h fun x e1 v H1 R1 V1 P1 h1 => ?_)
  split at h1
  · rename_i ds hv
    obtain ⟨a, kvs, rfl, ha, _⟩ := rt_dct (V1.top R1 addB_sub hv)
    refine ⟨a, rfl, .inl ⟨kvs, .inl ha⟩, ?_⟩
    refine hk _ e1 σ H1 _ R1 (Goal.next P1 addB_sub h1 fun y e2 u H2 R2 V2 P2 h2 => ?_)
    have hBB : ∀ b, B b → addB (addB B x (V.ref a)) y u b := fun b z => addB_sub b (addB_sub b z)
    have P12 := P1.trans P2
    cases hm : mx e2 with
    | stuck => rw [hm] at h2; exact h2.elim
    | exc q e =>
      rw [hm] at h2
      refine hx _ e2 σ H2 _ R2 ?_
      rw [hm]
      exact fun cls dx H' R3 X P3 => h2 cls dx H' (R3.weak hBB) (X.mono (AvE.mono hBB)) (P12.trans P3)
    | ok z e3 =>
      rw [hm] at h2
      refine hx _ e2 σ H2 _ R2 ?_
      rw [hm]
      intro w H3 R3 V3 P3 nw
      have h3 : Goal c W B env σ H Q (match x.view e3, y.view e3 with
        | some (.dct ds), some (.str k) => match getS ds k with
          | some d => .ok (.sh d) e3
          | none => .ok z e3
        | _, _ => .stuck) := h2
      split at h3
      · rename_i ds3 k hv3 hy3
        have V1' := V1.step (P2.trans P3)
        have V2' := V2.step P3
        have hB3 : ∀ b, B b → addB (addB (addB B x (V.ref a)) y u) z w b := fun b q => addB_sub b (hBB b q)
        obtain ⟨a', kvs3, e, ha3, rk⟩ := rt_dct (V1'.top R3 (fun b q => addB_sub b (addB_sub b (addB_sub b q))) hv3)
        cases e
        have T2 := V2'.top R3 (fun b q => addB_sub b (addB_sub b q)) hy3
        cases T2
        refine ⟨valV kvs3 (.inr k), DGet.k (k := .inr k) ha3, ?_⟩
        rcases rk.get k with ⟨v', d, g1, g2, g3⟩ | ⟨g1, g2⟩
        · rw [g2] at h3
          rw [g1]
          exact h3 v' H3 (R3.weak hB3) (g3.mono fun _ q => q) (P12.trans P3) trivial
        · rw [g2] at h3
          rw [g1]
          exact Goal.back (r := .ok z e3) P12 hBB h3 w H3 R3 V3 P3 nw
      · exact h3.elim
  · exact h1.elim
theorem de_get2 {o f : Expr} {md mk mx : ME} {apos : Pos} (hu : X.A.units + 64 < cLine) (ho : DE X c W o md) (he : DE X c W e mk) (hf : DE X c W f mx)
    (h1 : attributeBase o "get" X.env (eval o X.env) = eval o X.env := by rfl)
    (h2 : ((backTo pos (starEach [e, f] X.env)).all (fun x => !x.1) && (backToKw pos (keywordEach [] X.env)).all (fun x => x.1.isSome) && decide (([e, f] : List Expr).length + ([] : List Keyword).length + (if ([] : List Keyword).isEmpty then 0 else 1) < 30)) = true := by rfl)
    (h3 : (apos.endLine == pos.line) = true := by rfl) (h4 : backTo pos (starEach [e, f] X.env) = [(false, eval e X.env), (false, eval f X.env)] := by rfl) : DE X c W (.Call (.Attribute o "get" apos) [e, f] [] pos) (mGet2 md mk mx) :=
  let ⟨_, p1, r1⟩ := ho.ex; let ⟨_, p2, r2⟩ := he.ex; let ⟨_, p3, r3⟩ := hf.ex
  ⟨_, pe_dget2 (by omega) p1 p2 p3 ⟨h1, h2, h3, h4⟩, ref_get2 r1 r2 r3⟩
/-! ### x[k1], x[k2], .. = e1, e2, .. -/
structure DSub (X : Cx) (i : Nat) (tgs : List Expr) (ks : List Str) : Prop where
  ex : PGs X tgs (gsD i ks)
theorem dsub_nil {i : Nat} : DSub X i [] [] := ⟨pgs_nil⟩
theorem dsub_cons {i j : Nat} {x k : Str} {p p2 p3 : Pos} {tgs : List Expr} {ks : List Str} (hu : X.A.units + 64 < cLine) (h : DSub X i tgs ks) (hN : X.N[i]? = some x := by rfl) (hv : Vis X.env.scope x := by first | exact Or.inl rfl | exact Or.inr (Or.inl rfl) | exact Or.inr (Or.inr rfl)) (hd : (x == ("__debug__" : Str)) = false := by decide) (hcd : (x == ("__classdict__" : Str)) = false := by decide)
    (ha : ∀ v, assign (.Subscript (.Name x p) (.Constant (.str k) j p2) p3) X.env v = (do
      let ov ← holding [v] (eval (.Name x p) X.env)
      let iv ← holding [v, ov] (eval (.Constant (.str k) j p2) X.env)
      standAt p3
      holding [v, ov, iv] (setItem ov iv v)
      release [v, ov, iv] []) := by intro _; rfl)
    (hs : (assignEach (.Subscript (.Name x p) (.Constant (.str k) j p2) p3 :: tgs) X.env).map (·.2) = assign (.Subscript (.Name x p) (.Constant (.str k) j p2) p3) X.env :: (assignEach tgs X.env).map (·.2) := by rfl) :
    DSub X i (.Subscript (.Name x p) (.Constant (.str k) j p2) p3 :: tgs) (k :: ks) := ⟨pgs_cons (pg_sub (pe_var hN hv hd hcd) pe_str (set_dict (by omega)) ha) h.ex hs⟩
theorem ds_parD {i n kt : Nat} {tgs : List Expr} {ks : List Str} {pt : Pos} (hc : X.calm = true) (hK : c.K = X.K) (h : DE X c W e m) (ht : DSub X i tgs ks) (hn : (assignEach tgs X.env).length = n := by rfl) (hst : (assignEach tgs X.env).findIdx? (·.1) = none := by rfl)
    (hs : swapsWithSole [.Tuple tgs kt pt] e pos.line X.env = pure false := by rfl) (hw : swappedStores [.Tuple tgs kt pt] e X.env = pure none := by rfl) (h1 : (assignEach [.Tuple tgs kt pt] X.env).map (·.2) = [assign (.Tuple tgs kt pt) X.env] := by rfl) :
    DS X c W (.Assign [.Tuple tgs kt pt] e pos) (mParD i n ks m) := let ⟨_, p, r⟩ := h.ex
  ⟨_, ps_asg p (pg_tup hc ht.ex hn hst) hs hw h1, by rw [← hK]; exact refS_parD r⟩
/-! ### {} -/
def mDct0 : ME := fun env => .ok (.new (.dct [])) env
theorem de_dct0 : DE X c W (.Dict [] [] pos) mDct0 := ⟨_, pe_dnewK, fun B env σ H Q R h p hp => OGoal.dct0 (Goal.ends (W := W) (r := .new (.dct [])) Post.refl R (fun _ z => z) h) p hp⟩
/-! ### -3 -/
theorem de_neg {i : Int} {j : Nat} {p : Pos} : DE X c W (.UnaryOp .USub (.Constant (.int i) j p) pos) (mC (.int (-i))) :=
  ⟨_, pe_un un_neg pe_int, fun B env σ H Q R h => ⟨i, rfl, h _ H R (.int _) Post.refl trivial⟩⟩
end
end Q

set_option linter.all false
set_option maxRecDepth 100000
set_option maxHeartbeats 4000000
namespace Q
open PySem PySem.Spec PyProof.Rows L2
/-! ### KeyError as a base: its objects are made by LookupError's __new__ -/
abbrev keyTail : List Value := [.type "KeyError", .type "LookupError", .type "Exception", .type "BaseException", .type "object"]
theorem keyNew : NewF "LookupError.__new__" keyTail := ⟨⟨_, _, _, F.excBase_LookupError, by decide +kernel⟩, by decide +kernel, by decide +kernel⟩
theorem keyIni : IniF "KeyError" "KeyError.__init__" where
  ns := by decide +kernel
  row := by kernel_rfl
  kind := by kernel_rfl
  plain := by decide +kernel
  entry := entryFor_alias (id' := "BaseException.__init__")
    (by rw [fastTable_eq_tree]; kernel_rfl)
    (by first | rfl | decide +kernel)
    (by decide +kernel)
    (by rw [fastTable_eq_tree]; kernel_rfl)
theorem keyKxs : PySem.W.KxsFacts "KeyError" "KeyError.__init__" where
  typ := by
    show builtinType _ = _
    rw [builtinType_eq_fast]
    kernel_rfl
  nac := by first | kernel_rfl | rfl
theorem pass_Key (self : Value) : refuseLoop self "__setattr__" keyTail = pure () := by kernel_rfl
/-! ### classes as facts -/
/-- an own exception class without __init__ of its own -/
structure Cls0 (K : PySem.W.Frag) (mg : Str → Option Value) (x : Str) (B newId initId : String) (bmB : List Value) where
  C : Addr
  gC : mg x = some (.ref C)
  ex : Ex0 K B newId initId bmB C
/-- an own exception class whose __init__ says super().__init__ -/
structure ClsS (P : Program) (K : PySem.W.Frag) (mg : Str → Option Value) (x qual f : Str) (st : Stmt) (B newId i : String) (bmB : List Value) where
  C : Addr
  fI : Addr
  cc : Addr
  cda : Addr
  gC : mg x = some (.ref C)
  T : SupF P K mg C fI cc cda qual f st B newId i bmB
section
variable {K : PySem.W.Frag} {C D : Addr} {ms : List Value}
theorem kit_own (hm : (PySem.W.clsIn K C).map (·.mro) = some ms) (h0 : ms.isEmpty = false) (hC : ms.contains (.ref C) = true) (hD : (PySem.W.clsIn K D).isSome = true) (tD : PySem.W.typeIn K (.ref D) = some (.type "type")) : PySem.W.kitOne K (.ref C) (.ref D) = some (ms.contains (.ref D)) := by
  unfold PySem.W.kitOne
  by_cases h : (Value.ref C == Value.ref D) = true
  · rw [if_pos h]
    rw [beq_iff_eq] at h
    rw [← h, hC]
  · rw [if_neg h]
    unfold PySem.W.kitCls
    obtain ⟨cd, hcd, e⟩ := Option.map_eq_some_iff.mp hm
    simp only [hD, tD, beq_self_eq_true, Bool.and_self, if_true]
    show PySem.W.mroIn K C (.ref D) = _
    unfold PySem.W.mroIn
    rw [hcd, Option.bind_some, e, h0]
    simp
theorem kit_type {T : String} (hm : (PySem.W.clsIn K C).map (·.mro) = some ms) (h0 : ms.isEmpty = false) (hT : PySem.W.kitMeta T = true) : PySem.W.kitOne K (.ref C) (.type T) = some (ms.contains (.type T)) := by
  unfold PySem.W.kitOne
  have h : (Value.ref C == Value.type T) = false := rfl
  rw [h, if_neg Bool.false_ne_true]
  unfold PySem.W.kitCls
  obtain ⟨cd, hcd, e⟩ := Option.map_eq_some_iff.mp hm
  simp only [hT, if_true]
  show PySem.W.mroIn K C (.type T) = _
  unfold PySem.W.mroIn
  rw [hcd, Option.bind_some, e, h0]
  simp
end
/-- what is told of the own exception classes: their names and addresses, each one's kinds (itself among them) by name -/
structure Isa (K : PySem.W.Frag) (mg : Str → Option Value) (L : List Str) (sup : Str → List Str) (TY : List String) : Prop where
  own : ∀ n ∈ L, ∀ C, mg n = some (.ref C) → ExF K C ∧ (∀ y ∈ L, ∀ D, mg y = some (.ref D) → PySem.W.kitOne K (.ref C) (.ref D) = some ((sup n).contains y)) ∧
    ∀ T : String, TY.contains T = true → PySem.W.kitMeta T = true → PySem.W.kitOne K (.ref C) (.type T) = some ((sup n).contains (T : Str))
def isx (L : List Str) (sup : Str → List Str) (y n : Str) : Option Bool := if L.contains n = true then some ((sup n).contains y) else none
section
variable {X : Cx} {c : DCtx} {W : WX} {pos : Pos} {a b e : Expr} {m : ME}
/-- isinstance(e, y), y an own exception class -/
theorem de_isiO {L : List Str} {sup : Str → List Str} {TY : List String} {x : Str} {p p1 : Pos} (I : Isa X.K X.mg L sup TY) (hx : L.contains x = true) {D : Addr} (hD : X.mg x = some (.ref D)) (hK : c.K = X.K) (hmg : c.mg = X.mg) (hg : Gl X "isinstance") (hm : X.mg "isinstance" = none) (he : DE X c W e m) (hgx : Gl X x)
    (hdb : (x == ("__debug__" : Str)) = false := by decide) (hs : starEach [e, .Name x p] X.env = (false, eval e X.env) :: starEach [.Name x p] X.env := by rfl) (hs2 : starEach [.Name x p] X.env = (false, eval (.Name x p) X.env) :: starEach [] X.env := by rfl) (hpl : (backTo pos (starEach [.Name x p] X.env)).any (·.1) = false := by rfl) :
    DE X c W (.Call (.Name "isinstance" p1) [e, .Name x p] [] pos) (mUn (isiD (isx L sup x) fun _ => none) m) :=
  de_isi hK hg hm he (pe_glob (v := .ref D) hgx hD rfl hdb) (.own D) (fun n b C h1 h2 => by
    unfold isx at h1
    split at h1
    · rename_i hn
      cases h1
      rw [hmg] at h2
      obtain ⟨f, g, _⟩ := I.own n (List.contains_iff_mem.mp hn) C h2
      rw [hK]
      exact ⟨f, g x (List.contains_iff_mem.mp hx) D hD⟩
    · cases h1) (fun T b h => by cases h) hs hs2 hpl
/-- isinstance(e, T), T a built-in exception class -/
theorem de_isiT {L : List Str} {sup : Str → List Str} {TY : List String} {x : Str} {T : String} {p p1 : Pos} (I : Isa X.K X.mg L sup TY) (hTY : TY.contains T = true) (hT : PySem.W.kitMeta T = true) (ex : x = (T : Str)) (hD : X.mg x = none) (hv : bootBuiltins x = some (.type T)) (hK : c.K = X.K) (hmg : c.mg = X.mg) (hg : Gl X "isinstance") (hm : X.mg "isinstance" = none) (he : DE X c W e m) (hgx : Gl X x)
    (hnn : x ≠ "__name__" := by decide) (hdb : (x == ("__debug__" : Str)) = false := by decide) (hs : starEach [e, .Name x p] X.env = (false, eval e X.env) :: starEach [.Name x p] X.env := by rfl) (hs2 : starEach [.Name x p] X.env = (false, eval (.Name x p) X.env) :: starEach [] X.env := by rfl) (hpl : (backTo pos (starEach [.Name x p] X.env)).any (·.1) = false := by rfl) :
    DE X c W (.Call (.Name "isinstance" p1) [e, .Name x p] [] pos) (mUn (isiD (isx L sup x) fun _ => none) m) :=
  de_isi hK hg hm he (pe_bltn (v := .ty T) hgx hD hv rfl hnn hdb) (.ty T) (fun n b C h1 h2 => by
    unfold isx at h1
    split at h1
    · rename_i hn
      cases h1
      rw [hmg] at h2
      obtain ⟨f, _, g⟩ := I.own n (List.contains_iff_mem.mp hn) C h2
      rw [hK, ex]
      exact ⟨f, g T hTY hT⟩
    · cases h1) (fun T b h => by cases h) hs hs2 hpl
end
/-! ### told from a table: name, address, mro -/
def AllP {α : Type} (P : α → Prop) : List α → Prop
  | [] => True
  | p :: r => P p ∧ AllP P r
theorem AllP.mem {α : Type} {P : α → Prop} : ∀ {l : List α}, AllP P l → ∀ p ∈ l, P p
  | _ :: _, h, p, hp => by
    rcases List.mem_cons.mp hp with rfl | hp
    · exact h.1
    · exact AllP.mem h.2 p hp
def isaChk (sup : Str → List Str) (TY : List String) (tbl : List (Str × Addr × List Value)) : Bool :=
  tbl.all fun p => !p.2.2.isEmpty && p.2.2.contains (.ref p.2.1) && (tbl.all fun q => p.2.2.contains (.ref q.2.1) == (sup p.1).contains q.1) && TY.all fun T => p.2.2.contains (.type T) == (sup p.1).contains (T : Str)
structure ExT (K : PySem.W.Frag) (mg : Str → Option Value) (p : Str × Addr × List Value) : Prop where
  g : mg p.1 = some (.ref p.2.1)
  F : ExF K p.2.1
  m : (PySem.W.clsIn K p.2.1).map (·.mro) = some p.2.2
  t : PySem.W.typeIn K (.ref p.2.1) = some (.type "type")
theorem isa_mk {K : PySem.W.Frag} {mg : Str → Option Value} {sup : Str → List Str} {TY : List String} (tbl : List (Str × Addr × List Value)) (h : AllP (ExT K mg) tbl) (chk : isaChk sup TY tbl = true) : Isa K mg (tbl.map (·.1)) sup TY := by
  refine ⟨fun n hn C hC => ?_⟩
  obtain ⟨p, hp, rfl⟩ := List.mem_map.mp hn
  have E := h.mem p hp
  have e := E.g
  rw [hC] at e
  have eC : C = p.2.1 := Value.ref.inj (Option.some.inj e)
  subst eC
  have c1 := List.all_eq_true.mp chk p hp
  simp only [Bool.and_eq_true, Bool.not_eq_true'] at c1
  obtain ⟨⟨⟨k1, k2⟩, k3⟩, k4⟩ := c1
  refine ⟨E.F, fun y hy D hD => ?_, fun T hT hm => ?_⟩
  · obtain ⟨q, hq, rfl⟩ := List.mem_map.mp hy
    have E2 := h.mem q hq
    have e := E2.g
    rw [hD] at e
    have eD : D = q.2.1 := Value.ref.inj (Option.some.inj e)
    subst eD
    rw [kit_own E.m k1 k2 E2.F.cl E2.t]
    exact congrArg some (beq_iff_eq.mp (List.all_eq_true.mp k3 q hq))
  · rw [kit_type E.m k1 hm]
    exact congrArg some (beq_iff_eq.mp (List.all_eq_true.mp k4 T (List.contains_iff_mem.mp hT)))
end Q

set_option linter.all false
set_option maxRecDepth 100000
set_option maxHeartbeats 4000000
namespace Q
open PySem PySem.Spec PyProof.Rows L2
/-- the law is called where nothing is shown: from its promise on data -/
theorem law_callG {P : Program} {w : World} {K : PySem.W.Frag} {mg mb : Str → Option Value} {k : Nat} {fa a : Addr} {fd : FuncData} {x : Str} {sp : Sp} {s : Shared} {us : List Value} {ns : List Int}
    (kx : K.In s.heap) (n1 : s.heap.Ns mainGlobals mg) (n2 : s.heap.Ns builtinsNs mb) (n3 : ∀ x : Str, x ≠ "__name__" → mb x = bootBuiltins x) (nl : s.heap.NoLimit) (gn : s.gens = #[])
    (at_a : s.heap.get? a = some { cls := .type "list", data := .seq us.toArray }) (its : IntsAre us ns) (small : ns.length ≤ sizeLine) (room : Room k callerA)
    (G : ∀ base : Heap, K.In base → base.Ns mainGlobals mg → FnG P w K mg base k fa fd [x] sp) (bnd : ∀ (t : Shared) (u : Value), BindsTo t fd ⟨[u], []⟩ [(x, u)])
    (yes : ∀ H : Hp, Only H → LstAt K H a (ns.map V.int) → sp [.ref a] H (fun v _ => v = .bl true) fun _ _ _ => False) :
    codeAny (model P w) callerA (.call (.ref fa) ⟨[.ref a], []⟩) (fun r s' => r = .ok (.ret (.bool true)) ∧ OldK s.heap s'.heap ∧ s'.os = s.os ∧ AllBare s'.gens) s := by
  have vi := vals_ints its
  have li := its.length
  have main : ∀ H : Hp, Only H → LstAt K H a (ns.map V.int) → HOk P w H s.heap →
      (∀ b, H b ≠ none → b = a) → (H a ≠ none → K.lookup a = none) →
      codeAny (model P w) callerA (.call (.ref fa) ⟨[.ref a], []⟩) (fun r s' => r = .ok (.ret (.bool true)) ∧ OldK s.heap s'.heap ∧ s'.os = s.os ∧ AllBare s'.gens) s := fun H only sq hok one free => by
    have inb : ∀ {b : Addr} {o : Obj}, s.heap.get? b = some o → H b = none → (hidT s.heap H).get? b = some o := fun e n => hidT_get e n
    have isa : ∀ {b : Addr} {u : HO}, H b = some u → b = a := fun {b u} q => one b (fun z => by rw [z] at q; cases q)
    have dn : ∀ {b : Addr} {o : Obj} {es : Array DictEntry} {ep : Nat}, s.heap.get? b = some o → o.data = .dict es ep → H b = none := fun {b o es ep} e d => by
      cases q : H b with
      | none => rfl
      | some u =>
        rw [isa q, at_a] at e
        cases e
        cases d
    have ns : ∀ {b : Addr} {m : Str → Option Value}, s.heap.Ns b m → (hidT s.heap H).Ns b m := fun {b m} ⟨o, es, ep, e, d, r⟩ =>
      ⟨o, es, ep, inb e (dn e d), d, r⟩
    have kb : K.In (hidT s.heap H) := fun b o e => inb (kx b o e) (by
      cases q : H b with
      | none => rfl
      | some u =>
        have hb := isa q
        subst hb
        have := free (fun z => by rw [z] at q; cases q)
        rw [this] at e; cases e)
    obtain ⟨mc, c1, c2⟩ := nl
    have md : L2.Mod K mg (hidT s.heap H) := ⟨kb, ns n1, ⟨mb, ns n2, n3⟩, ⟨mc, ns c1, c2⟩⟩
    have env : Env0 P w K mg (hidT s.heap H) callerA [] s H :=
      ⟨rfl, md, fun b o e => of_hidT e, Nat.le_of_eq (hidT_size _ _), trivial, fun b hb => absurd (show b ∈ ([] : List Addr) from hb) (by simp), hok, .of_eq gn⟩
    have run := (G _ kb (ns n1)).run callerA [] s H ⟨[.ref a], []⟩ [.ref a] [.ref a] _ _ room rfl env (bnd s (.ref a)) (.cons rfl .nil) (yes H only sq)
    refine codeAny_mono run fun r s' h => ?_
    cases r with
    | error e =>
      obtain ⟨_, _, _, _, _, _, _, _, _, _, _, _, _, z⟩ := h
    | ok fl =>
      cases fl with
      | next => exact False.elim h
      | brk => exact False.elim h
      | cont => exact False.elim h
      | ret u =>
        obtain ⟨v, H', o1, o2, un, ok', rv, rfl⟩ := h
        cases (show u = Value.bool true from rv)
        refine ⟨rfl, OldK.of_keep fun b o e => ?_, o1, o2⟩
        have nb : b ∉ ([] : List Addr) := by simp
        cases q : H b with
        | none => exact un.keep b o e q nb (by simp)
        | some u =>
          rcases only b with z | ⟨ob, xs, z⟩
          · rw [q] at z; cases z
          · have z2 := un.frzs b ob _ z
            obtain ⟨y1, _⟩ := hok b _ z
            obtain ⟨y2, _⟩ := ok' b _ z2
            rw [e] at y1
            cases y1
            exact y2
  cases hk : K.lookup a with
  | some o =>
    have e := kx a o hk
    rw [at_a] at e
    cases e
    refine main (fun _ => none) (fun _ => .inl rfl) (.inr ⟨us.toArray, _, hk, by rw [List.size_toArray, li]; exact small, by simpa using vi⟩) (fun b u z => ?_) (fun b z => absurd rfl z) (fun z => absurd rfl z)
    have z' : (none : Option HO) = some u := z
    cases z'
  | none =>
    let F : HO := .frz { cls := .type "list", data := .seq us.toArray } (.lst (ns.map V.int))
    have fa' : (fun b => if b = a then some F else none : Hp) a = some F := if_pos rfl
    refine main (fun b => if b = a then some F else none) (fun b => ?_) (.inl (.inr ⟨_, fa'⟩)) (fun b u z => ?_) (fun b z => ?_) (fun _ => hk)
    · by_cases hb : b = a
      · exact .inr ⟨_, _, if_pos hb⟩
      · exact .inl (if_neg hb)
    · by_cases hb : b = a
      · subst hb
        rw [fa'] at z
        cases z
        exact ⟨at_a, by rw [List.length_map]; exact small, us, _, vi, at_a⟩
      · have z' : (if b = a then some F else none : Option HO) = some u := z
        rw [if_neg hb] at z'
        cases z'
    · by_cases hb : b = a
      · exact hb
      · exact absurd (if_neg hb) z
theorem walkG {l : PySem.W.OpenLaw} {n k : Nat} {q : Program} {loose : List Str} {XP : (Str → Option Value) → Heap → Prop} {YP : World → Heap → Prop} {d : DefRec} {K : Params → PySem.W.Frag} {x : Str} {F : List D → FRes}
    (hn : l.most = some n) (hn2 : n ≤ sizeLine) (hdf : d.params.defaults = []) (hr : Room k callerA) (hY : ∀ (w : World) (h : Heap), YP w h → (K w.params).In h)
    (G : ∀ (w : World) (mg : Str → Option Value) (fa : Addr) (h : Heap), (K w.params).In h → h.Ns mainGlobals mg → mg d.name = some (.ref fa) → ∃ fd : FuncData, (∀ (s : Shared) (u : Value), BindsTo s fd ⟨[u], []⟩ [(x, u)]) ∧
      ∀ base : Heap, (K w.params).In base → base.Ns mainGlobals mg → FnG l.prog w (K w.params) mg base k fa fd [x] (spD (K w.params) mg none 1 F))
    (yes : ∀ ns : List Int, ns.length ≤ n → ∃ out, F [.lst (ns.map D.int)] = .ok false (.bl true) out) : PySem.W.WalkO q loose XP YP l.row.toRowW d [] (fun f vs => PySem.call f vs) := by
  refine Att.attach_call hn hdf fun w s₀ s mg mb fa o pm cd doc a vs ns Gr Y ho hd hcd hmg hobj hints hlen hg => ?_
  obtain ⟨fd, hb, hF⟩ := G w mg fa _ (hY w _ Y) Gr.T.g hmg
  refine law_callG (hY w _ Y) Gr.T.g Gr.T.b Gr.T.builtins Gr.T.nolimit hg hobj hints (Nat.le_trans hlen hn2) hr hF hb fun H only sq => ?_
  obtain ⟨out, e⟩ := yes ns hlen
  refine ⟨[.lst (ns.map D.int)], fun _ => False, rfl, ⟨rfl, fun _ z => z.elim, fun i dd _ hi => ?_, fun i z => by cases z⟩, ?_⟩
  · cases i with
    | succ i => simp at hi
    | zero =>
      simp at hi
      subst hi
      refine ⟨.ref a, rfl, ?_⟩
      have rs : ∀ ns : List Int, RDs (K w.params) mg (AvI (fun _ => False) none [V.ref a]) H (ns.map V.int) (ns.map D.int) := fun ns => by
        induction ns with
        | nil => exact .nil
        | cons i ns ih => exact .cons (.int i) ih
      rcases sq with h | h
      · exact .lst h (fun z => z.elim id fun ⟨_, z, _⟩ => by cases z) (rs ns)
      · exact .lstK h (rs ns)
  · show FGoal _ _ _ _ _ _ _ _ (F [.lst (ns.map D.int)])
    rw [e]
    intro v H' r _
    cases r
    rfl
end Q

set_option linter.all false
set_option maxRecDepth 100000
set_option maxHeartbeats 4000000
namespace Q
open PySem L2
def supArg (st : Stmt) : Expr := match defBody st with
  | [.Expr (.Call _ [e] _ _) _, _] => e
  | _ => .Constant .none 0 ⟨0, 0, 0, 0⟩
end Q
namespace K01
open PySem PySem.Spec PyProof.Rows L2 Q
def strL : List Str := ["DayError", "InvalidName", "InvalidNet", "InvalidRow", "InvalidTable", "InvalidCourse", "InvalidWay", "InvalidDay", "InvalidDeal", "InvalidOperation", "InvalidCommand"]

def top (i : Nat) : Stmt := PySem.Challenge.pw_dawnway_k01_errors.main.body.getD i (.Pass ⟨0, 0, 0, 0⟩)
abbrev PW : Program := PySem.Challenge.pw_dawnway_k01_errors
structure FnF (K : PySem.W.Frag) (mg : Str → Option Value) (x : Str) (st : Stmt) (ps : List Str) where
  f : Addr
  fd : FuncData
  F : Fun K x x st f fd
  b : Binds K fd ps []
  mg : mg x = some (.ref f)
theorem tx_ParseError : SupTx (inClass (top 12) 0) "line" "line" (supArg (inClass (top 12) 0)) where
  body := ⟨_, _, _, _, _, _, _, _, _, rfl, fun _ _ _ _ _ => ⟨_, rfl, rfl, rfl, rfl⟩⟩
  bind := fun _ _ _ _ _ _ _ _ _ _ => rfl
  head := ⟨_, rfl, rfl⟩
  ks := rfl
  kc := rfl
  kself := rfl
  ka := rfl
  nc := by decide +kernel
  kind := rfl
  co := rfl
  gen := rfl
  ne := by decide
  ne' := by decide
  db := by decide
theorem tx_UnknownName : SupTx (inClass (top 13) 0) "wanted" "wanted" (supArg (inClass (top 13) 0)) where
  body := ⟨_, _, _, _, _, _, _, _, _, rfl, fun _ _ _ _ _ => ⟨_, rfl, rfl, rfl, rfl⟩⟩
  bind := fun _ _ _ _ _ _ _ _ _ _ => rfl
  head := ⟨_, rfl, rfl⟩
  ks := rfl
  kc := rfl
  kself := rfl
  ka := rfl
  nc := by decide +kernel
  kind := rfl
  co := rfl
  gen := rfl
  ne := by decide
  ne' := by decide
  db := by decide
theorem tx_InvalidNumber : SupTx (inClass (top 14) 0) "given" "given" (supArg (inClass (top 14) 0)) where
  body := ⟨_, _, _, _, _, _, _, _, _, rfl, fun _ _ _ _ _ => ⟨_, rfl, rfl, rfl, rfl⟩⟩
  bind := fun _ _ _ _ _ _ _ _ _ _ => rfl
  head := ⟨_, rfl, rfl⟩
  ks := rfl
  kc := rfl
  kself := rfl
  ka := rfl
  nc := by decide +kernel
  kind := rfl
  co := rfl
  gen := rfl
  ne := by decide
  ne' := by decide
  db := by decide
theorem tx_TooMany : SupTx (inClass (top 15) 0) "limit" "limit" (supArg (inClass (top 15) 0)) where
  body := ⟨_, _, _, _, _, _, _, _, _, rfl, fun _ _ _ _ _ => ⟨_, rfl, rfl, rfl, rfl⟩⟩
  bind := fun _ _ _ _ _ _ _ _ _ _ => rfl
  head := ⟨_, rfl, rfl⟩
  ks := rfl
  kc := rfl
  kself := rfl
  ka := rfl
  nc := by decide +kernel
  kind := rfl
  co := rfl
  gen := rfl
  ne := by decide
  ne' := by decide
  db := by decide
theorem tx_Refused : SupTx (inClass (top 16) 0) "reason" "reason" (supArg (inClass (top 16) 0)) where
  body := ⟨_, _, _, _, _, _, _, _, _, rfl, fun _ _ _ _ _ => ⟨_, rfl, rfl, rfl, rfl⟩⟩
  bind := fun _ _ _ _ _ _ _ _ _ _ => rfl
  head := ⟨_, rfl, rfl⟩
  ks := rfl
  kc := rfl
  kself := rfl
  ka := rfl
  nc := by decide +kernel
  kind := rfl
  co := rfl
  gen := rfl
  ne := by decide
  ne' := by decide
  db := by decide
theorem tx_NothingToUndo : SupTx (inClass (top 17) 0) "wanted" "wanted" (supArg (inClass (top 17) 0)) where
  body := ⟨_, _, _, _, _, _, _, _, _, rfl, fun _ _ _ _ _ => ⟨_, rfl, rfl, rfl, rfl⟩⟩
  bind := fun _ _ _ _ _ _ _ _ _ _ => rfl
  head := ⟨_, rfl, rfl⟩
  ks := rfl
  kc := rfl
  kself := rfl
  ka := rfl
  nc := by decide +kernel
  kind := rfl
  co := rfl
  gen := rfl
  ne := by decide
  ne' := by decide
  db := by decide
def LX : List Str := ["DayError", "InvalidName", "InvalidNet", "InvalidRow", "InvalidTable", "InvalidCourse", "InvalidWay", "InvalidDay", "InvalidDeal", "InvalidOperation", "InvalidCommand", "ParseError", "UnknownName", "InvalidNumber", "TooMany", "Refused", "NothingToUndo"]
def supT : List (Str × List Str) := [("DayError", ["DayError", "ValueError", "Exception", "BaseException", "object"]), ("InvalidName", ["InvalidName", "DayError", "ValueError", "Exception", "BaseException", "object"]), ("InvalidNet", ["InvalidNet", "DayError", "ValueError", "Exception", "BaseException", "object"]), ("InvalidRow", ["InvalidRow", "DayError", "ValueError", "Exception", "BaseException", "object"]), ("InvalidTable", ["InvalidTable", "DayError", "ValueError", "Exception", "BaseException", "object"]), ("InvalidCourse", ["InvalidCourse", "DayError", "ValueError", "Exception", "BaseException", "object"]), ("InvalidWay", ["InvalidWay", "DayError", "ValueError", "Exception", "BaseException", "object"]), ("InvalidDay", ["InvalidDay", "DayError", "ValueError", "Exception", "BaseException", "object"]), ("InvalidDeal", ["InvalidDeal", "DayError", "ValueError", "Exception", "BaseException", "object"]), ("InvalidOperation", ["InvalidOperation", "DayError", "ValueError", "Exception", "BaseException", "object"]), ("InvalidCommand", ["InvalidCommand", "DayError", "ValueError", "Exception", "BaseException", "object"]), ("ParseError", ["ParseError", "DayError", "ValueError", "Exception", "BaseException", "object"]), ("UnknownName", ["UnknownName", "KeyError", "LookupError", "Exception", "BaseException", "object"]), ("InvalidNumber", ["InvalidNumber", "RuntimeError", "Exception", "BaseException", "object"]), ("TooMany", ["TooMany", "OverflowError", "ArithmeticError", "Exception", "BaseException", "object"]), ("Refused", ["Refused", "ArithmeticError", "Exception", "BaseException", "object"]), ("NothingToUndo", ["NothingToUndo", "IndexError", "LookupError", "Exception", "BaseException", "object"])]
def TYX : List String := ["ValueError", "KeyError", "RuntimeError", "OverflowError", "ArithmeticError", "IndexError", "LookupError", "TypeError", "ZeroDivisionError"]
def supX (n : Str) : List Str := (supT.lookup n).getD []
structure Facts (K : PySem.W.Frag) (mg : Str → Option Value) where
  _law_dice : FnF K mg "_law_dice" (top 19) ["script", "spot"]
  _law_roll : FnF K mg "_law_roll" (top 20) ["dice", "total"]
  _law_pick : FnF K mg "_law_pick" (top 21) ["dice", "items"]
  _law_made : FnF K mg "_law_made" (top 22) ["word", "value"]
  _law_kept : FnF K mg "_law_kept" (top 23) ["word", "error"]
  _law_kinds : FnF K mg "_law_kinds" (top 24) ["error"]
  _law_due : FnF K mg "_law_due" (top 25) ["word"]
  _law_words : FnF K mg "_law_words" (top 26) []
  law : FnF K mg "law" (top 27) ["script"]
  ArithmeticError : mg "ArithmeticError" = none
  IndexError : mg "IndexError" = none
  KeyError : mg "KeyError" = none
  LookupError : mg "LookupError" = none
  OverflowError : mg "OverflowError" = none
  RuntimeError : mg "RuntimeError" = none
  TypeError : mg "TypeError" = none
  ValueError : mg "ValueError" = none
  ZeroDivisionError : mg "ZeroDivisionError" = none
  abs : mg "abs" = none
  int : mg "int" = none
  isinstance : mg "isinstance" = none
  len : mg "len" = none
  max : mg "max" = none
  min : mg "min" = none
  range : mg "range" = none
  repr : mg "repr" = none
  str : mg "str" = none
  super : mg "super" = none
  c_DayError : Cls0 K mg "DayError" "ValueError" "ValueError.__new__" "ValueError.__init__" [.type "ValueError", .type "Exception", .type "BaseException", .type "object"]
  c_InvalidName : Cls0 K mg "InvalidName" "ValueError" "ValueError.__new__" "ValueError.__init__" [.type "ValueError", .type "Exception", .type "BaseException", .type "object"]
  c_InvalidNet : Cls0 K mg "InvalidNet" "ValueError" "ValueError.__new__" "ValueError.__init__" [.type "ValueError", .type "Exception", .type "BaseException", .type "object"]
  c_InvalidRow : Cls0 K mg "InvalidRow" "ValueError" "ValueError.__new__" "ValueError.__init__" [.type "ValueError", .type "Exception", .type "BaseException", .type "object"]
  c_InvalidTable : Cls0 K mg "InvalidTable" "ValueError" "ValueError.__new__" "ValueError.__init__" [.type "ValueError", .type "Exception", .type "BaseException", .type "object"]
  c_InvalidCourse : Cls0 K mg "InvalidCourse" "ValueError" "ValueError.__new__" "ValueError.__init__" [.type "ValueError", .type "Exception", .type "BaseException", .type "object"]
  c_InvalidWay : Cls0 K mg "InvalidWay" "ValueError" "ValueError.__new__" "ValueError.__init__" [.type "ValueError", .type "Exception", .type "BaseException", .type "object"]
  c_InvalidDay : Cls0 K mg "InvalidDay" "ValueError" "ValueError.__new__" "ValueError.__init__" [.type "ValueError", .type "Exception", .type "BaseException", .type "object"]
  c_InvalidDeal : Cls0 K mg "InvalidDeal" "ValueError" "ValueError.__new__" "ValueError.__init__" [.type "ValueError", .type "Exception", .type "BaseException", .type "object"]
  c_InvalidOperation : Cls0 K mg "InvalidOperation" "ValueError" "ValueError.__new__" "ValueError.__init__" [.type "ValueError", .type "Exception", .type "BaseException", .type "object"]
  c_InvalidCommand : Cls0 K mg "InvalidCommand" "ValueError" "ValueError.__new__" "ValueError.__init__" [.type "ValueError", .type "Exception", .type "BaseException", .type "object"]
  c_ParseError : ClsS PW K mg "ParseError" "ParseError.__init__" "line" (inClass (top 12) 0) "ValueError" "ValueError.__new__" "ValueError.__init__" [.type "ValueError", .type "Exception", .type "BaseException", .type "object"]
  c_UnknownName : ClsS PW K mg "UnknownName" "UnknownName.__init__" "wanted" (inClass (top 13) 0) "KeyError" "LookupError.__new__" "KeyError.__init__" keyTail
  c_InvalidNumber : ClsS PW K mg "InvalidNumber" "InvalidNumber.__init__" "given" (inClass (top 14) 0) "RuntimeError" "RuntimeError.__new__" "RuntimeError.__init__" [.type "RuntimeError", .type "Exception", .type "BaseException", .type "object"]
  c_TooMany : ClsS PW K mg "TooMany" "TooMany.__init__" "limit" (inClass (top 15) 0) "OverflowError" "OverflowError.__new__" "OverflowError.__init__" [.type "OverflowError", .type "ArithmeticError", .type "Exception", .type "BaseException", .type "object"]
  c_Refused : ClsS PW K mg "Refused" "Refused.__init__" "reason" (inClass (top 16) 0) "ArithmeticError" "ArithmeticError.__new__" "ArithmeticError.__init__" [.type "ArithmeticError", .type "Exception", .type "BaseException", .type "object"]
  c_NothingToUndo : ClsS PW K mg "NothingToUndo" "NothingToUndo.__init__" "wanted" (inClass (top 17) 0) "IndexError" "IndexError.__new__" "IndexError.__init__" [.type "IndexError", .type "LookupError", .type "Exception", .type "BaseException", .type "object"]
  isa : Isa K mg LX supX TYX
  strOk : ∀ n, strL.contains n = true → ∀ C, mg n = some (.ref C) → PySem.W.findIn K (.ref C) "__str__" = some (some (.builtin "BaseException.__str__")) ∧ PySem.W.subIn K (.ref C) (.type "BaseException") = some true
  fld_line : ∀ n, (["ParseError"] : List Str).contains n = true → ∀ C, mg n = some (.ref C) → ExF K C ∧ PySem.W.hasDictIn K C = true ∧ PySem.W.findIn K (.ref C) "line" = some none
  fld_given : ∀ n, (["InvalidNumber"] : List Str).contains n = true → ∀ C, mg n = some (.ref C) → ExF K C ∧ PySem.W.hasDictIn K C = true ∧ PySem.W.findIn K (.ref C) "given" = some none
  fld_limit : ∀ n, (["TooMany"] : List Str).contains n = true → ∀ C, mg n = some (.ref C) → ExF K C ∧ PySem.W.hasDictIn K C = true ∧ PySem.W.findIn K (.ref C) "limit" = some none
  fld_reason : ∀ n, (["Refused"] : List Str).contains n = true → ∀ C, mg n = some (.ref C) → ExF K C ∧ PySem.W.hasDictIn K C = true ∧ PySem.W.findIn K (.ref C) "reason" = some none
  fld_wanted : ∀ n, (["UnknownName", "NothingToUndo"] : List Str).contains n = true → ∀ C, mg n = some (.ref C) → ExF K C ∧ PySem.W.hasDictIn K C = true ∧ PySem.W.findIn K (.ref C) "wanted" = some none
abbrev st__law_dice : Stmt := top 19
theorem sc__law_dice : FnScope ["script", "spot", "cell", "whole", "mixed"] ["script", "spot"] (defScope st__law_dice) := ⟨rfl, rfl, rfl, by decide +kernel, rfl, by decide +kernel, by decide +kernel⟩
def m__law_dice : MS := (mSeq (mSet false 2 (mIfE (mTest (mOp ltD (mVar 1) (mCall lenD (mCons (mVar 0) mNil)))) (mCall intD (mCons (mOp ixD (mVar 0) (mVar 1)) mNil)) (mOp addD (mOp mulD (mC (.int 521)) (mVar 1)) (mC (.int 89)))))
    (mSeq (mSet false 3 (mOp modD (mCall absD (mCons (mVar 2) mNil)) (mOp powD (mOp powD (mC (.int 10)) (mC (.int 60))) (mC (.int 10)))))
    (mSeq (mSet false 4 (mOp addD (mOp addD (mOp addD (mOp mulD (mVar 3) (mC (.int 1000193))) (mOp mulD (mC (.int 7919)) (mVar 1))) (mOp mulD (mC (.int 37)) (mCall intD (mCons (mOp ltD (mVar 2) (mC (.int 0))) mNil)))) (mC (.int 11))))
    (mRet (mLst (mCons (mCall max2D (mCons (mC (.int 0)) (mCons (mOp subD (mVar 3) (mOp powD (mC (.int 10)) (mC (.int 16)))) mNil))) (mCons (mOp modD (mVar 4) (mC (.int 1152921504606846883))) (mCons (mC (.int 0)) mNil))))))))
def diceD : List D → FRes := runD none 5 m__law_dice
theorem ok__law_dice {w : World} {K : PySem.W.Frag} {mg : Str → Option Value} {base : Heap} (T : Facts K mg)
    : FnG PW w K mg base 1 T._law_dice.f T._law_dice.fd ["script", "spot"] (spD K mg none 2 diceD) :=
  fnD T._law_dice.F sc__law_dice rfl (fun cdv A out s H vs E hr hgu => have sc_nd := sc__law_dice.nd; (by exact (dss_cons (ds_set false 2 sc_nd (io_ne (vs := vs) (io := (none : Option Nat)) (i := 2) (by decide)) (de_ifE (dt_cmp (opr_lt) (nomark _) (de_var 1) (de_callB (cr_len rfl) rfl T.len Q.bt_len (da_cons (de_var 0) da_nil))) (de_callTy (cr_int) rfl T.int Q.bt_int (da_cons (de_ix rfl (de_var 0) (de_var 1) (fun _ _ => rfl)) da_nil)) (de_op (opr_add rfl) (de_op (opr_mul) de_int (de_var 1)) de_int)))
    (dss_cons (ds_set false 3 sc_nd (io_ne (vs := vs) (io := (none : Option Nat)) (i := 3) (by decide)) (de_op (opr_mod) (de_callB (cr_abs) rfl T.abs Q.bt_abs (da_cons (de_var 2) da_nil)) (de_op (opr_pow) (de_op (opr_pow) de_int de_int) de_int)))
    (dss_cons (ds_set false 4 sc_nd (io_ne (vs := vs) (io := (none : Option Nat)) (i := 4) (by decide)) (de_op (opr_add rfl) (de_op (opr_add rfl) (de_op (opr_add rfl) (de_op (opr_mul) (de_var 3) de_int) (de_op (opr_mul) de_int (de_var 1))) (de_op (opr_mul) de_int (de_callTy (cr_int) rfl T.int Q.bt_int (da_cons (de_cmp (opr_lt) (nomark _) (de_var 2) de_int) da_nil)))) de_int))
    (dss_one (ds_ret (de_lst (da_cons (de_callB (cr_max2 rfl) rfl T.max Q.bt_max (da_cons de_int (da_cons (de_op (opr_sub) (de_var 3) (de_op (opr_pow) de_int de_int)) da_nil))) (da_cons (de_op (opr_mod) (de_var 4) de_int) (da_cons de_int da_nil))))))))))) (fun _ _ _ => rfl)
abbrev st__law_roll : Stmt := top 20
theorem sc__law_roll : FnScope ["dice", "total", "one", "two", "found"] ["dice", "total"] (defScope st__law_roll) := ⟨rfl, rfl, rfl, by decide +kernel, rfl, by decide +kernel, by decide +kernel⟩
def m__law_roll : MS := (mSeq (mIf (mTest (mOp gtD (mOp ixD (mVar 0) (mC (.int 0))) (mC (.int 0)))) (mSeq (mSet false 4 (mOp modD (mOp ixD (mVar 0) (mC (.int 0))) (mVar 1)))
    (mSeq (mSetIx 0 (mOp fdivD (mOp ixD (mVar 0) (mC (.int 0))) (mVar 1)) (mC (.int 0)))
    (mRet (mVar 4)))) mNx)
    (mSeq (mSetIx 0 (mOp addD (mOp ixD (mVar 0) (mC (.int 2))) (mC (.int 1))) (mC (.int 2)))
    (mSeq (mSet false 2 (mOp modD (mOp addD (mOp ixD (mVar 0) (mC (.int 1))) (mOp mulD (mC (.int 654188429)) (mOp ixD (mVar 0) (mC (.int 2))))) (mC (.int 2305843009213693907))))
    (mSeq (mSet false 3 (mOp addD (mOp mulD (mOp modD (mOp mulD (mVar 2) (mVar 2)) (mC (.int 1152921504606846871))) (mVar 2)) (mOp mulD (mC (.int 8191)) (mOp ixD (mVar 0) (mC (.int 2))))))
    (mRet (mOp modD (mOp fdivD (mOp modD (mOp addD (mVar 3) (mOp ixD (mVar 0) (mC (.int 1)))) (mC (.int 8796093022151))) (mC (.int 64))) (mVar 1)))))))
def rollD : List D → FRes := runD (some 0) 5 m__law_roll
theorem ok__law_roll {w : World} {K : PySem.W.Frag} {mg : Str → Option Value} {base : Heap} (T : Facts K mg)
    : FnG PW w K mg base 1 T._law_roll.f T._law_roll.fd ["dice", "total"] (spD K mg (some 0) 2 rollD) :=
  fnD T._law_roll.F sc__law_roll rfl (fun cdv A out s H vs E hr hgu => have sc_nd := sc__law_roll.nd; (by exact (dss_cons (ds_if (dt_cmp (opr_gt) (nomark _) (de_ix rfl (de_var 0) de_int (fun _ _ => rfl)) de_int) (dss_cons (ds_set false 4 sc_nd (io_ne (vs := vs) (io := (some 0)) (i := 4) (by decide)) (de_op (opr_mod) (de_ix rfl (de_var 0) de_int (fun _ _ => rfl)) (de_var 1)))
    (dss_cons (ds_setIx 0 (de_op (opr_fdiv) (de_ix rfl (de_var 0) de_int (fun _ _ => rfl)) (de_var 1)) de_int)
    (dss_one (ds_ret (de_var 4))))) dss_nil)
    (dss_cons (ds_setIx 0 (de_op (opr_add rfl) (de_ix rfl (de_var 0) de_int (fun _ _ => rfl)) de_int) de_int)
    (dss_cons (ds_set false 2 sc_nd (io_ne (vs := vs) (io := (some 0)) (i := 2) (by decide)) (de_op (opr_mod) (de_op (opr_add rfl) (de_ix rfl (de_var 0) de_int (fun _ _ => rfl)) (de_op (opr_mul) de_int (de_ix rfl (de_var 0) de_int (fun _ _ => rfl)))) de_int))
    (dss_cons (ds_set false 3 sc_nd (io_ne (vs := vs) (io := (some 0)) (i := 3) (by decide)) (de_op (opr_add rfl) (de_op (opr_mul) (de_op (opr_mod) (de_op (opr_mul) (de_var 2) (de_var 2)) de_int) (de_var 2)) (de_op (opr_mul) de_int (de_ix rfl (de_var 0) de_int (fun _ _ => rfl)))))
    (dss_one (ds_ret (de_op (opr_mod) (de_op (opr_fdiv) (de_op (opr_mod) (de_op (opr_add rfl) (de_var 3) (de_ix rfl (de_var 0) de_int (fun _ _ => rfl))) de_int) de_int) (de_var 1)))))))))) (fun _ _ _ => rfl)
abbrev st__law_pick : Stmt := top 21
theorem sc__law_pick : FnScope ["dice", "items"] ["dice", "items"] (defScope st__law_pick) := ⟨rfl, rfl, rfl, by decide +kernel, rfl, by decide +kernel, by decide +kernel⟩
def m__law_pick : MS := (mRet (mOp ixD (mVar 1) (mCallU rollD 2 (some (0, 0)) (mCons (mVar 0) (mCons (mCall lenD (mCons (mVar 1) mNil)) mNil)))))
def pickD : List D → FRes := runD (some 0) 2 m__law_pick
theorem ok__law_pick {w : World} {K : PySem.W.Frag} {mg : Str → Option Value} {base : Heap} (T : Facts K mg) (G__law_roll : FnG PW w K mg base 1 T._law_roll.f T._law_roll.fd ["dice", "total"] (spD K mg (some 0) 2 rollD))
    : FnG PW w K mg base 2 T._law_pick.f T._law_pick.fd ["dice", "items"] (spD K mg (some 0) 2 pickD) :=
  fnD T._law_pick.F sc__law_pick rfl (fun cdv A out s H vs E hr hgu => have sc_nd := sc__law_pick.nd; (by exact (dss_one (ds_ret (de_ix rfl (de_var 1) (de_call (some (0, 0)) (G__law_roll.mono (by decide)) hr hgu rfl T._law_roll.mg T._law_roll.F.kp T._law_roll.b (takes_of rfl rfl rfl rfl) (da_cons (de_var 0) (da_cons (de_callB (cr_len rfl) rfl T.len Q.bt_len (da_cons (de_var 1) da_nil)) da_nil))) (fun _ _ => rfl)))))) (fun _ _ _ => rfl)
abbrev st__law_made : Stmt := top 22
theorem sc__law_made : FnScope ["word", "value"] ["word", "value"] (defScope st__law_made) := ⟨rfl, rfl, rfl, by decide +kernel, rfl, by decide +kernel, by decide +kernel⟩
def m__law_made : MS := (mSeq (mIf (mTest (mOp eqD (mVar 0) (mC (.str "name")))) (mRet (mExc0 "InvalidName" (mCons (mVar 1) mNil))) mNx)
    (mSeq (mIf (mTest (mOp eqD (mVar 0) (mC (.str "net")))) (mRet (mExc0 "InvalidNet" (mCons (mVar 1) mNil))) mNx)
    (mSeq (mIf (mTest (mOp eqD (mVar 0) (mC (.str "row")))) (mRet (mExc0 "InvalidRow" (mCons (mVar 1) mNil))) mNx)
    (mSeq (mIf (mTest (mOp eqD (mVar 0) (mC (.str "table")))) (mRet (mExc0 "InvalidTable" (mCons (mVar 1) mNil))) mNx)
    (mSeq (mIf (mTest (mOp eqD (mVar 0) (mC (.str "course")))) (mRet (mExc0 "InvalidCourse" (mCons (mVar 1) mNil))) mNx)
    (mSeq (mIf (mTest (mOp eqD (mVar 0) (mC (.str "way")))) (mRet (mExc0 "InvalidWay" (mCons (mVar 1) mNil))) mNx)
    (mSeq (mIf (mTest (mOp eqD (mVar 0) (mC (.str "day")))) (mRet (mExc0 "InvalidDay" (mCons (mVar 1) mNil))) mNx)
    (mSeq (mIf (mTest (mOp eqD (mVar 0) (mC (.str "deal")))) (mRet (mExc0 "InvalidDeal" (mCons (mVar 1) mNil))) mNx)
    (mSeq (mIf (mTest (mOp eqD (mVar 0) (mC (.str "operation")))) (mRet (mExc0 "InvalidOperation" (mCons (mVar 1) mNil))) mNx)
    (mSeq (mIf (mTest (mOp eqD (mVar 0) (mC (.str "command")))) (mRet (mExc0 "InvalidCommand" (mCons (mVar 1) mNil))) mNx)
    (mSeq (mIf (mTest (mOp eqD (mVar 0) (mC (.str "parse")))) (mRet (mSup D.shows "ParseError" "line" (mCons (mVar 1) mNil))) mNx)
    (mSeq (mIf (mTest (mOp eqD (mVar 0) (mC (.str "unknown")))) (mRet (mSup (fun _ => true) "UnknownName" "wanted" (mCons (mVar 1) mNil))) mNx)
    (mSeq (mIf (mTest (mOp eqD (mVar 0) (mC (.str "number")))) (mRet (mSup (fun _ => true) "InvalidNumber" "given" (mCons (mVar 1) mNil))) mNx)
    (mSeq (mIf (mTest (mOp eqD (mVar 0) (mC (.str "many")))) (mRet (mSup (fun _ => true) "TooMany" "limit" (mCons (mVar 1) mNil))) mNx)
    (mSeq (mIf (mTest (mOp eqD (mVar 0) (mC (.str "refused")))) (mRet (mSup (fun _ => true) "Refused" "reason" (mCons (mVar 1) mNil))) mNx)
    (mRet (mIfE (mTest (mOp eqD (mVar 0) (mC (.str "undo")))) (mSup (fun _ => true) "NothingToUndo" "wanted" (mCons (mVar 1) mNil)) (mExc0 "DayError" (mCons (mVar 1) mNil)))))))))))))))))))
def madeD : List D → FRes := runD none 2 m__law_made
theorem ok__law_made {w : World} {K : PySem.W.Frag} {mg : Str → Option Value} {base : Heap} (T : Facts K mg)
    : FnG PW w K mg base 2 T._law_made.f T._law_made.fd ["word", "value"] (spD K mg none 2 madeD) :=
  fnD T._law_made.F sc__law_made rfl (fun cdv A out s H vs E hr hgu => have sc_nd := sc__law_made.nd; (by exact (dss_cons (ds_if (dt_cmp (opr_eq rfl hr.units) (nomark _) (de_var 0) de_str) (dss_one (ds_ret (de_exc0 PySem.F.excBase_ValueError T.c_InvalidName.ex T.c_InvalidName.gC rfl rfl (da_cons (de_var 1) da_nil)))) dss_nil)
    (dss_cons (ds_if (dt_cmp (opr_eq rfl hr.units) (nomark _) (de_var 0) de_str) (dss_one (ds_ret (de_exc0 PySem.F.excBase_ValueError T.c_InvalidNet.ex T.c_InvalidNet.gC rfl rfl (da_cons (de_var 1) da_nil)))) dss_nil)
    (dss_cons (ds_if (dt_cmp (opr_eq rfl hr.units) (nomark _) (de_var 0) de_str) (dss_one (ds_ret (de_exc0 PySem.F.excBase_ValueError T.c_InvalidRow.ex T.c_InvalidRow.gC rfl rfl (da_cons (de_var 1) da_nil)))) dss_nil)
    (dss_cons (ds_if (dt_cmp (opr_eq rfl hr.units) (nomark _) (de_var 0) de_str) (dss_one (ds_ret (de_exc0 PySem.F.excBase_ValueError T.c_InvalidTable.ex T.c_InvalidTable.gC rfl rfl (da_cons (de_var 1) da_nil)))) dss_nil)
    (dss_cons (ds_if (dt_cmp (opr_eq rfl hr.units) (nomark _) (de_var 0) de_str) (dss_one (ds_ret (de_exc0 PySem.F.excBase_ValueError T.c_InvalidCourse.ex T.c_InvalidCourse.gC rfl rfl (da_cons (de_var 1) da_nil)))) dss_nil)
    (dss_cons (ds_if (dt_cmp (opr_eq rfl hr.units) (nomark _) (de_var 0) de_str) (dss_one (ds_ret (de_exc0 PySem.F.excBase_ValueError T.c_InvalidWay.ex T.c_InvalidWay.gC rfl rfl (da_cons (de_var 1) da_nil)))) dss_nil)
    (dss_cons (ds_if (dt_cmp (opr_eq rfl hr.units) (nomark _) (de_var 0) de_str) (dss_one (ds_ret (de_exc0 PySem.F.excBase_ValueError T.c_InvalidDay.ex T.c_InvalidDay.gC rfl rfl (da_cons (de_var 1) da_nil)))) dss_nil)
    (dss_cons (ds_if (dt_cmp (opr_eq rfl hr.units) (nomark _) (de_var 0) de_str) (dss_one (ds_ret (de_exc0 PySem.F.excBase_ValueError T.c_InvalidDeal.ex T.c_InvalidDeal.gC rfl rfl (da_cons (de_var 1) da_nil)))) dss_nil)
    (dss_cons (ds_if (dt_cmp (opr_eq rfl hr.units) (nomark _) (de_var 0) de_str) (dss_one (ds_ret (de_exc0 PySem.F.excBase_ValueError T.c_InvalidOperation.ex T.c_InvalidOperation.gC rfl rfl (da_cons (de_var 1) da_nil)))) dss_nil)
    (dss_cons (ds_if (dt_cmp (opr_eq rfl hr.units) (nomark _) (de_var 0) de_str) (dss_one (ds_ret (de_exc0 PySem.F.excBase_ValueError T.c_InvalidCommand.ex T.c_InvalidCommand.gC rfl rfl (da_cons (de_var 1) da_nil)))) dss_nil)
    (dss_cons (ds_if (dt_cmp (opr_eq rfl hr.units) (nomark _) (de_var 0) de_str) (dss_one (ds_ret (de_sup (ok := D.shows) T.c_ParseError.T tx_ParseError (newF_of PySem.F.excBase_ValueError) (iniF_of PySem.F.excBase_ValueError) PySem.W.kxs_ValueError hr hgu (se := fun _ => rfl) (hA := (argok_fline rfl rfl rfl (by decide))) (hV := okShow_of) (gC := T.c_ParseError.gC) (hmg := rfl) (hK := rfl) (hg := rfl) (ha := (da_cons (de_var 1) da_nil))))) dss_nil)
    (dss_cons (ds_if (dt_cmp (opr_eq rfl hr.units) (nomark _) (de_var 0) de_str) (dss_one (ds_ret (de_sup (ok := (fun _ => true)) T.c_UnknownName.T tx_UnknownName keyNew keyIni keyKxs hr hgu (se := fun _ => rfl) (hA := (fun h L x v _ => argok_name (v := v) rfl rfl rfl rfl (by simp [List.lookup_cons]))) (Ok := fun _ _ => True) (hV := fun _ _ _ _ _ _ _ _ _ _ _ _ _ _ => trivial) (gC := T.c_UnknownName.gC) (hmg := rfl) (hK := rfl) (hg := rfl) (ha := (da_cons (de_var 1) da_nil))))) dss_nil)
    (dss_cons (ds_if (dt_cmp (opr_eq rfl hr.units) (nomark _) (de_var 0) de_str) (dss_one (ds_ret (de_sup (ok := (fun _ => true)) T.c_InvalidNumber.T tx_InvalidNumber (newF_of PySem.F.excBase_RuntimeError) (iniF_of PySem.F.excBase_RuntimeError) PySem.W.kxs_RuntimeError hr hgu (se := fun _ => rfl) (hA := (fun h L x v _ => argok_name (v := v) rfl rfl rfl rfl (by simp [List.lookup_cons]))) (Ok := fun _ _ => True) (hV := fun _ _ _ _ _ _ _ _ _ _ _ _ _ _ => trivial) (gC := T.c_InvalidNumber.gC) (hmg := rfl) (hK := rfl) (hg := rfl) (ha := (da_cons (de_var 1) da_nil))))) dss_nil)
    (dss_cons (ds_if (dt_cmp (opr_eq rfl hr.units) (nomark _) (de_var 0) de_str) (dss_one (ds_ret (de_sup (ok := (fun _ => true)) T.c_TooMany.T tx_TooMany (newF_of PySem.F.excBase_OverflowError) (iniF_of PySem.F.excBase_OverflowError) PySem.W.kxs_OverflowError hr hgu (se := fun _ => rfl) (hA := (fun h L x v _ => argok_name (v := v) rfl rfl rfl rfl (by simp [List.lookup_cons]))) (Ok := fun _ _ => True) (hV := fun _ _ _ _ _ _ _ _ _ _ _ _ _ _ => trivial) (gC := T.c_TooMany.gC) (hmg := rfl) (hK := rfl) (hg := rfl) (ha := (da_cons (de_var 1) da_nil))))) dss_nil)
    (dss_cons (ds_if (dt_cmp (opr_eq rfl hr.units) (nomark _) (de_var 0) de_str) (dss_one (ds_ret (de_sup (ok := (fun _ => true)) T.c_Refused.T tx_Refused (newF_of PySem.F.excBase_ArithmeticError) (iniF_of PySem.F.excBase_ArithmeticError) PySem.W.kxs_ArithmeticError hr hgu (se := fun _ => rfl) (hA := (fun h L x v _ => argok_name (v := v) rfl rfl rfl rfl (by simp [List.lookup_cons]))) (Ok := fun _ _ => True) (hV := fun _ _ _ _ _ _ _ _ _ _ _ _ _ _ => trivial) (gC := T.c_Refused.gC) (hmg := rfl) (hK := rfl) (hg := rfl) (ha := (da_cons (de_var 1) da_nil))))) dss_nil)
    (dss_one (ds_ret (de_ifE (dt_cmp (opr_eq rfl hr.units) (nomark _) (de_var 0) de_str) (de_sup (ok := (fun _ => true)) T.c_NothingToUndo.T tx_NothingToUndo (newF_of PySem.F.excBase_IndexError) (iniF_of PySem.F.excBase_IndexError) PySem.W.kxs_IndexError hr hgu (se := fun _ => rfl) (hA := (fun h L x v _ => argok_name (v := v) rfl rfl rfl rfl (by simp [List.lookup_cons]))) (Ok := fun _ _ => True) (hV := fun _ _ _ _ _ _ _ _ _ _ _ _ _ _ => trivial) (gC := T.c_NothingToUndo.gC) (hmg := rfl) (hK := rfl) (hg := rfl) (ha := (da_cons (de_var 1) da_nil))) (de_exc0 PySem.F.excBase_ValueError T.c_DayError.ex T.c_DayError.gC rfl rfl (da_cons (de_var 1) da_nil)))))))))))))))))))))) (fun _ _ _ => rfl)
abbrev st__law_kept : Stmt := top 23
theorem sc__law_kept : FnScope ["word", "error"] ["word", "error"] (defScope st__law_kept) := ⟨rfl, rfl, rfl, by decide +kernel, rfl, by decide +kernel, by decide +kernel⟩
def m__law_kept : MS := (mSeq (mIf (mTest (mOp eqD (mVar 0) (mC (.str "parse")))) (mRet (mUn (fldD ["ParseError"] "line") (mVar 1))) mNx)
    (mSeq (mIf (mTest (mOp eqD (mVar 0) (mC (.str "number")))) (mRet (mUn (fldD ["InvalidNumber"] "given") (mVar 1))) mNx)
    (mSeq (mIf (mTest (mOp eqD (mVar 0) (mC (.str "many")))) (mRet (mUn (fldD ["TooMany"] "limit") (mVar 1))) mNx)
    (mSeq (mIf (mTest (mOp eqD (mVar 0) (mC (.str "refused")))) (mRet (mUn (fldD ["Refused"] "reason") (mVar 1))) mNx)
    (mRet (mIfE (mTest (mOp inD (mVar 0) (mTup (mCons (mC (.str "unknown")) (mCons (mC (.str "undo")) mNil))))) (mUn (fldD ["UnknownName", "NothingToUndo"] "wanted") (mVar 1)) (mCall (strD strL) (mCons (mVar 1) mNil))))))))
def keptD : List D → FRes := runD none 2 m__law_kept
theorem ok__law_kept {w : World} {K : PySem.W.Frag} {mg : Str → Option Value} {base : Heap} (T : Facts K mg)
    : FnG PW w K mg base 1 T._law_kept.f T._law_kept.fd ["word", "error"] (spD K mg none 2 keptD) :=
  fnD T._law_kept.F sc__law_kept rfl (fun cdv A out s H vs E hr hgu => have sc_nd := sc__law_kept.nd; (by exact (dss_cons (ds_if (dt_cmp (opr_eq rfl hr.units) (nomark _) (de_var 0) de_str) (dss_one (ds_ret (de_fld rfl T.fld_line (de_var 1)))) dss_nil)
    (dss_cons (ds_if (dt_cmp (opr_eq rfl hr.units) (nomark _) (de_var 0) de_str) (dss_one (ds_ret (de_fld rfl T.fld_given (de_var 1)))) dss_nil)
    (dss_cons (ds_if (dt_cmp (opr_eq rfl hr.units) (nomark _) (de_var 0) de_str) (dss_one (ds_ret (de_fld rfl T.fld_limit (de_var 1)))) dss_nil)
    (dss_cons (ds_if (dt_cmp (opr_eq rfl hr.units) (nomark _) (de_var 0) de_str) (dss_one (ds_ret (de_fld rfl T.fld_reason (de_var 1)))) dss_nil)
    (dss_one (ds_ret (de_ifE (dt_cmp (opr_in rfl hr.units) rfl (de_var 0) (de_tup (da_cons de_str (da_cons de_str da_nil)))) (de_fld rfl T.fld_wanted (de_var 1)) (de_callTy (cr_strE (L := strL) rfl hr.units T.strOk) rfl T.str Q.bt_str (da_cons (de_var 1) da_nil))))))))))) (fun _ _ _ => rfl)
abbrev st__law_kinds : Stmt := top 24
theorem sc__law_kinds : FnScope ["error", "some", "word", "is_one"] ["error"] (defScope st__law_kinds) := ⟨rfl, rfl, rfl, by decide +kernel, rfl, by decide +kernel, by decide +kernel⟩
def m__law_kinds : MS := (mSeq (mSet false 1 (mLst (mCons (mTup (mCons (mC (.str "name")) (mCons (mUn (isiD (isx LX supX "InvalidName") fun _ => none) (mVar 0)) mNil))) (mCons (mTup (mCons (mC (.str "net")) (mCons (mUn (isiD (isx LX supX "InvalidNet") fun _ => none) (mVar 0)) mNil))) mNil))))
    (mSeq (mSet false 1 (mOp addD (mVar 1) (mLst (mCons (mTup (mCons (mC (.str "row")) (mCons (mUn (isiD (isx LX supX "InvalidRow") fun _ => none) (mVar 0)) mNil))) (mCons (mTup (mCons (mC (.str "table")) (mCons (mUn (isiD (isx LX supX "InvalidTable") fun _ => none) (mVar 0)) mNil))) mNil)))))
    (mSeq (mSet false 1 (mOp addD (mVar 1) (mLst (mCons (mTup (mCons (mC (.str "course")) (mCons (mUn (isiD (isx LX supX "InvalidCourse") fun _ => none) (mVar 0)) mNil))) (mCons (mTup (mCons (mC (.str "way")) (mCons (mUn (isiD (isx LX supX "InvalidWay") fun _ => none) (mVar 0)) mNil))) mNil)))))
    (mSeq (mSet false 1 (mOp addD (mVar 1) (mLst (mCons (mTup (mCons (mC (.str "day")) (mCons (mUn (isiD (isx LX supX "InvalidDay") fun _ => none) (mVar 0)) mNil))) (mCons (mTup (mCons (mC (.str "deal")) (mCons (mUn (isiD (isx LX supX "InvalidDeal") fun _ => none) (mVar 0)) mNil))) mNil)))))
    (mSeq (mSet false 1 (mOp addD (mVar 1) (mLst (mCons (mTup (mCons (mC (.str "operation")) (mCons (mUn (isiD (isx LX supX "InvalidOperation") fun _ => none) (mVar 0)) mNil))) (mCons (mTup (mCons (mC (.str "command")) (mCons (mUn (isiD (isx LX supX "InvalidCommand") fun _ => none) (mVar 0)) mNil))) mNil)))))
    (mSeq (mSet false 1 (mOp addD (mVar 1) (mLst (mCons (mTup (mCons (mC (.str "parse")) (mCons (mUn (isiD (isx LX supX "ParseError") fun _ => none) (mVar 0)) mNil))) (mCons (mTup (mCons (mC (.str "unknown")) (mCons (mUn (isiD (isx LX supX "UnknownName") fun _ => none) (mVar 0)) mNil))) mNil)))))
    (mSeq (mSet false 1 (mOp addD (mVar 1) (mLst (mCons (mTup (mCons (mC (.str "number")) (mCons (mUn (isiD (isx LX supX "InvalidNumber") fun _ => none) (mVar 0)) mNil))) (mCons (mTup (mCons (mC (.str "many")) (mCons (mUn (isiD (isx LX supX "TooMany") fun _ => none) (mVar 0)) mNil))) mNil)))))
    (mSeq (mSet false 1 (mOp addD (mVar 1) (mLst (mCons (mTup (mCons (mC (.str "refused")) (mCons (mUn (isiD (isx LX supX "Refused") fun _ => none) (mVar 0)) mNil))) (mCons (mTup (mCons (mC (.str "undo")) (mCons (mUn (isiD (isx LX supX "NothingToUndo") fun _ => none) (mVar 0)) mNil))) mNil)))))
    (mSeq (mSet false 1 (mOp addD (mVar 1) (mLst (mCons (mTup (mCons (mC (.str "DAY")) (mCons (mUn (isiD (isx LX supX "DayError") fun _ => none) (mVar 0)) mNil))) (mCons (mTup (mCons (mC (.str "VALUE")) (mCons (mUn (isiD (isx LX supX "ValueError") fun _ => none) (mVar 0)) mNil))) mNil)))))
    (mSeq (mSet false 1 (mOp addD (mVar 1) (mLst (mCons (mTup (mCons (mC (.str "KEY")) (mCons (mUn (isiD (isx LX supX "KeyError") fun _ => none) (mVar 0)) mNil))) (mCons (mTup (mCons (mC (.str "RUNTIME")) (mCons (mUn (isiD (isx LX supX "RuntimeError") fun _ => none) (mVar 0)) mNil))) mNil)))))
    (mSeq (mSet false 1 (mOp addD (mVar 1) (mLst (mCons (mTup (mCons (mC (.str "OVERFLOW")) (mCons (mUn (isiD (isx LX supX "OverflowError") fun _ => none) (mVar 0)) mNil))) (mCons (mTup (mCons (mC (.str "ARITHMETIC")) (mCons (mUn (isiD (isx LX supX "ArithmeticError") fun _ => none) (mVar 0)) mNil))) mNil)))))
    (mSeq (mSet false 1 (mOp addD (mVar 1) (mLst (mCons (mTup (mCons (mC (.str "INDEX")) (mCons (mUn (isiD (isx LX supX "IndexError") fun _ => none) (mVar 0)) mNil))) (mCons (mTup (mCons (mC (.str "LOOKUP")) (mCons (mUn (isiD (isx LX supX "LookupError") fun _ => none) (mVar 0)) mNil))) mNil)))))
    (mSeq (mSet false 1 (mOp addD (mVar 1) (mLst (mCons (mTup (mCons (mC (.str "TYPE")) (mCons (mUn (isiD (isx LX supX "TypeError") fun _ => none) (mVar 0)) mNil))) (mCons (mTup (mCons (mC (.str "ZERO")) (mCons (mUn (isiD (isx LX supX "ZeroDivisionError") fun _ => none) (mVar 0)) mNil))) mNil)))))
    (mRet (mLc (mAny (mVar 1)) (bTup 2 (bCons (bName 2) (bCons (bName 3) bNil))) (mTest (mVar 3)) (mVar 2) [2, 3])))))))))))))))
def kindsD : List D → FRes := runD none 4 m__law_kinds
theorem ok__law_kinds {w : World} {K : PySem.W.Frag} {mg : Str → Option Value} {base : Heap} (T : Facts K mg)
    : FnG PW w K mg base 1 T._law_kinds.f T._law_kinds.fd ["error"] (spD K mg none 1 kindsD) :=
  fnD T._law_kinds.F sc__law_kinds rfl (fun cdv A out s H vs E hr hgu => have sc_nd := sc__law_kinds.nd; (by exact (dss_cons (ds_set false 1 sc_nd (io_ne (vs := vs) (io := (none : Option Nat)) (i := 1) (by decide)) (de_lst (da_cons (de_tup (da_cons de_str (da_cons (de_isiO T.isa (by decide) T.c_InvalidName.gC rfl rfl rfl T.isinstance (de_var 0) rfl) da_nil))) (da_cons (de_tup (da_cons de_str (da_cons (de_isiO T.isa (by decide) T.c_InvalidNet.gC rfl rfl rfl T.isinstance (de_var 0) rfl) da_nil))) da_nil))))
    (dss_cons (ds_set false 1 sc_nd (io_ne (vs := vs) (io := (none : Option Nat)) (i := 1) (by decide)) (de_op (opr_add rfl) (de_var 1) (de_lst (da_cons (de_tup (da_cons de_str (da_cons (de_isiO T.isa (by decide) T.c_InvalidRow.gC rfl rfl rfl T.isinstance (de_var 0) rfl) da_nil))) (da_cons (de_tup (da_cons de_str (da_cons (de_isiO T.isa (by decide) T.c_InvalidTable.gC rfl rfl rfl T.isinstance (de_var 0) rfl) da_nil))) da_nil)))))
    (dss_cons (ds_set false 1 sc_nd (io_ne (vs := vs) (io := (none : Option Nat)) (i := 1) (by decide)) (de_op (opr_add rfl) (de_var 1) (de_lst (da_cons (de_tup (da_cons de_str (da_cons (de_isiO T.isa (by decide) T.c_InvalidCourse.gC rfl rfl rfl T.isinstance (de_var 0) rfl) da_nil))) (da_cons (de_tup (da_cons de_str (da_cons (de_isiO T.isa (by decide) T.c_InvalidWay.gC rfl rfl rfl T.isinstance (de_var 0) rfl) da_nil))) da_nil)))))
    (dss_cons (ds_set false 1 sc_nd (io_ne (vs := vs) (io := (none : Option Nat)) (i := 1) (by decide)) (de_op (opr_add rfl) (de_var 1) (de_lst (da_cons (de_tup (da_cons de_str (da_cons (de_isiO T.isa (by decide) T.c_InvalidDay.gC rfl rfl rfl T.isinstance (de_var 0) rfl) da_nil))) (da_cons (de_tup (da_cons de_str (da_cons (de_isiO T.isa (by decide) T.c_InvalidDeal.gC rfl rfl rfl T.isinstance (de_var 0) rfl) da_nil))) da_nil)))))
    (dss_cons (ds_set false 1 sc_nd (io_ne (vs := vs) (io := (none : Option Nat)) (i := 1) (by decide)) (de_op (opr_add rfl) (de_var 1) (de_lst (da_cons (de_tup (da_cons de_str (da_cons (de_isiO T.isa (by decide) T.c_InvalidOperation.gC rfl rfl rfl T.isinstance (de_var 0) rfl) da_nil))) (da_cons (de_tup (da_cons de_str (da_cons (de_isiO T.isa (by decide) T.c_InvalidCommand.gC rfl rfl rfl T.isinstance (de_var 0) rfl) da_nil))) da_nil)))))
    (dss_cons (ds_set false 1 sc_nd (io_ne (vs := vs) (io := (none : Option Nat)) (i := 1) (by decide)) (de_op (opr_add rfl) (de_var 1) (de_lst (da_cons (de_tup (da_cons de_str (da_cons (de_isiO T.isa (by decide) T.c_ParseError.gC rfl rfl rfl T.isinstance (de_var 0) rfl) da_nil))) (da_cons (de_tup (da_cons de_str (da_cons (de_isiO T.isa (by decide) T.c_UnknownName.gC rfl rfl rfl T.isinstance (de_var 0) rfl) da_nil))) da_nil)))))
    (dss_cons (ds_set false 1 sc_nd (io_ne (vs := vs) (io := (none : Option Nat)) (i := 1) (by decide)) (de_op (opr_add rfl) (de_var 1) (de_lst (da_cons (de_tup (da_cons de_str (da_cons (de_isiO T.isa (by decide) T.c_InvalidNumber.gC rfl rfl rfl T.isinstance (de_var 0) rfl) da_nil))) (da_cons (de_tup (da_cons de_str (da_cons (de_isiO T.isa (by decide) T.c_TooMany.gC rfl rfl rfl T.isinstance (de_var 0) rfl) da_nil))) da_nil)))))
    (dss_cons (ds_set false 1 sc_nd (io_ne (vs := vs) (io := (none : Option Nat)) (i := 1) (by decide)) (de_op (opr_add rfl) (de_var 1) (de_lst (da_cons (de_tup (da_cons de_str (da_cons (de_isiO T.isa (by decide) T.c_Refused.gC rfl rfl rfl T.isinstance (de_var 0) rfl) da_nil))) (da_cons (de_tup (da_cons de_str (da_cons (de_isiO T.isa (by decide) T.c_NothingToUndo.gC rfl rfl rfl T.isinstance (de_var 0) rfl) da_nil))) da_nil)))))
    (dss_cons (ds_set false 1 sc_nd (io_ne (vs := vs) (io := (none : Option Nat)) (i := 1) (by decide)) (de_op (opr_add rfl) (de_var 1) (de_lst (da_cons (de_tup (da_cons de_str (da_cons (de_isiO T.isa (by decide) T.c_DayError.gC rfl rfl rfl T.isinstance (de_var 0) rfl) da_nil))) (da_cons (de_tup (da_cons de_str (da_cons (de_isiT (T := "ValueError") T.isa (by decide) (by decide +kernel) rfl T.ValueError (by decide +kernel) rfl rfl rfl T.isinstance (de_var 0) rfl) da_nil))) da_nil)))))
    (dss_cons (ds_set false 1 sc_nd (io_ne (vs := vs) (io := (none : Option Nat)) (i := 1) (by decide)) (de_op (opr_add rfl) (de_var 1) (de_lst (da_cons (de_tup (da_cons de_str (da_cons (de_isiT (T := "KeyError") T.isa (by decide) (by decide +kernel) rfl T.KeyError (by decide +kernel) rfl rfl rfl T.isinstance (de_var 0) rfl) da_nil))) (da_cons (de_tup (da_cons de_str (da_cons (de_isiT (T := "RuntimeError") T.isa (by decide) (by decide +kernel) rfl T.RuntimeError (by decide +kernel) rfl rfl rfl T.isinstance (de_var 0) rfl) da_nil))) da_nil)))))
    (dss_cons (ds_set false 1 sc_nd (io_ne (vs := vs) (io := (none : Option Nat)) (i := 1) (by decide)) (de_op (opr_add rfl) (de_var 1) (de_lst (da_cons (de_tup (da_cons de_str (da_cons (de_isiT (T := "OverflowError") T.isa (by decide) (by decide +kernel) rfl T.OverflowError (by decide +kernel) rfl rfl rfl T.isinstance (de_var 0) rfl) da_nil))) (da_cons (de_tup (da_cons de_str (da_cons (de_isiT (T := "ArithmeticError") T.isa (by decide) (by decide +kernel) rfl T.ArithmeticError (by decide +kernel) rfl rfl rfl T.isinstance (de_var 0) rfl) da_nil))) da_nil)))))
    (dss_cons (ds_set false 1 sc_nd (io_ne (vs := vs) (io := (none : Option Nat)) (i := 1) (by decide)) (de_op (opr_add rfl) (de_var 1) (de_lst (da_cons (de_tup (da_cons de_str (da_cons (de_isiT (T := "IndexError") T.isa (by decide) (by decide +kernel) rfl T.IndexError (by decide +kernel) rfl rfl rfl T.isinstance (de_var 0) rfl) da_nil))) (da_cons (de_tup (da_cons de_str (da_cons (de_isiT (T := "LookupError") T.isa (by decide) (by decide +kernel) rfl T.LookupError (by decide +kernel) rfl rfl rfl T.isinstance (de_var 0) rfl) da_nil))) da_nil)))))
    (dss_cons (ds_set false 1 sc_nd (io_ne (vs := vs) (io := (none : Option Nat)) (i := 1) (by decide)) (de_op (opr_add rfl) (de_var 1) (de_lst (da_cons (de_tup (da_cons de_str (da_cons (de_isiT (T := "TypeError") T.isa (by decide) (by decide +kernel) rfl T.TypeError (by decide +kernel) rfl rfl rfl T.isinstance (de_var 0) rfl) da_nil))) (da_cons (de_tup (da_cons de_str (da_cons (de_isiT (T := "ZeroDivisionError") T.isa (by decide) (by decide +kernel) rfl T.ZeroDivisionError (by decide +kernel) rfl rfl rfl T.isinstance (de_var 0) rfl) da_nil))) da_nil)))))
    (dss_one (ds_ret (de_lc (own := [("word", 2), ("is_one", 3)]) rfl sc_nd (di_any rfl (de_var 1)) (by exact blkOk_by (N := ["error", "some", "word", "is_one"]) (sc := defScope st__law_kinds) (by decide +kernel)) (fun _ _ _ _ _ => (dg_tup rfl rfl (dgs_cons (dg_name 2 sc_nd (io_ne (vs := vs) (io := (none : Option Nat)) (i := 2) (by decide))) (dgs_cons (dg_name 3 sc_nd (io_ne (vs := vs) (io := (none : Option Nat)) (i := 3) (by decide))) dgs_nil)))) (fun _ _ _ _ _ => (dts_one (dt_val (de_var 3)))) (fun _ _ _ _ _ => (de_var 2)) (by decide))))))))))))))))))) (fun _ _ _ => rfl)
abbrev st__law_due : Stmt := top 25
theorem sc__law_due : FnScope ["word", "table"] ["word"] (defScope st__law_due) := ⟨rfl, rfl, rfl, by decide +kernel, rfl, by decide +kernel, by decide +kernel⟩
def m__law_due : MS := (mSeq (mSet true 1 (mDispS ["unknown", "number", "many"] (mCons (mLst (mCons (mC (.str "KEY")) (mCons (mC (.str "LOOKUP")) mNil))) (mCons (mLst (mCons (mC (.str "RUNTIME")) mNil)) (mCons (mLst (mCons (mC (.str "OVERFLOW")) (mCons (mC (.str "ARITHMETIC")) mNil))) mNil)))))
    (mSeq (mParD 1 3 ["refused", "undo", "day"] (mTup (mCons (mLst (mCons (mC (.str "ARITHMETIC")) mNil)) (mCons (mLst (mCons (mC (.str "INDEX")) (mCons (mC (.str "LOOKUP")) mNil))) (mCons (mLst (mCons (mC (.str "DAY")) (mCons (mC (.str "VALUE")) mNil))) mNil)))))
    (mRet (mOp addD (mLst (mCons (mVar 0) mNil)) (mGet2 (mVar 1) (mVar 0) (mLst (mCons (mC (.str "DAY")) (mCons (mC (.str "VALUE")) mNil))))))))
def dueD : List D → FRes := runD none 2 m__law_due
theorem ok__law_due {w : World} {K : PySem.W.Frag} {mg : Str → Option Value} {base : Heap} (T : Facts K mg)
    : FnG PW w K mg base 1 T._law_due.f T._law_due.fd ["word"] (spD K mg none 1 dueD) :=
  fnD T._law_due.F sc__law_due rfl (fun cdv A out s H vs E hr hgu => have sc_nd := sc__law_due.nd; (by exact (dss_cons (ds_set true 1 sc_nd (io_ne (vs := vs) (io := (none : Option Nat)) (i := 1) (by decide)) (de_dispS (dps_cons (de_lst (da_cons de_str (da_cons de_str da_nil))) (dps_cons (de_lst (da_cons de_str da_nil)) (dps_cons (de_lst (da_cons de_str (da_cons de_str da_nil))) dps_nil))) rfl rfl (fun z => by cases z) (by decide)))
    (dss_cons (ds_parD (i := 1) rfl rfl (de_tup (da_cons (de_lst (da_cons de_str da_nil)) (da_cons (de_lst (da_cons de_str (da_cons de_str da_nil))) (da_cons (de_lst (da_cons de_str (da_cons de_str da_nil))) da_nil)))) (dsub_cons hr.units (dsub_cons hr.units (dsub_cons hr.units dsub_nil))))
    (dss_one (ds_ret (de_op (opr_add rfl) (de_lst (da_cons (de_var 0) da_nil)) (de_get2 hr.units (de_var 1) (de_var 0) (de_lst (da_cons de_str (da_cons de_str da_nil))))))))))) (fun _ _ _ => rfl)
abbrev st__law_words : Stmt := top 26
theorem sc__law_words : FnScope ["found"] [] (defScope st__law_words) := ⟨rfl, rfl, rfl, by decide +kernel, rfl, by decide +kernel, by decide +kernel⟩
def m__law_words : MS := (mSeq (mSet false 0 (mLst (mCons (mC (.str "name")) (mCons (mC (.str "net")) (mCons (mC (.str "row")) (mCons (mC (.str "table")) (mCons (mC (.str "course")) (mCons (mC (.str "way")) (mCons (mC (.str "day")) (mCons (mC (.str "deal")) (mCons (mC (.str "operation")) (mCons (mC (.str "command")) mNil))))))))))))
    (mRet (mOp addD (mVar 0) (mLst (mCons (mC (.str "parse")) (mCons (mC (.str "unknown")) (mCons (mC (.str "number")) (mCons (mC (.str "many")) (mCons (mC (.str "refused")) (mCons (mC (.str "undo")) mNil))))))))))
def wordsD : List D → FRes := runD none 1 m__law_words
theorem ok__law_words {w : World} {K : PySem.W.Frag} {mg : Str → Option Value} {base : Heap} (T : Facts K mg)
    : FnG PW w K mg base 1 T._law_words.f T._law_words.fd [] (spD K mg none 0 wordsD) :=
  fnD T._law_words.F sc__law_words rfl (fun cdv A out s H vs E hr hgu => have sc_nd := sc__law_words.nd; (by exact (dss_cons (ds_set false 0 sc_nd (io_ne (vs := vs) (io := (none : Option Nat)) (i := 0) (by decide)) (de_lst (da_cons de_str (da_cons de_str (da_cons de_str (da_cons de_str (da_cons de_str (da_cons de_str (da_cons de_str (da_cons de_str (da_cons de_str (da_cons de_str da_nil))))))))))))
    (dss_one (ds_ret (de_op (opr_add rfl) (de_var 0) (de_lst (da_cons de_str (da_cons de_str (da_cons de_str (da_cons de_str (da_cons de_str (da_cons de_str da_nil))))))))))))) (fun _ _ _ => rfl)
abbrev st_law : Stmt := top 27
theorem sc_law : FnScope ["script", "spot", "plain", "dice", "word", "value", "error", "some"] ["script"] (defScope st_law) := ⟨rfl, rfl, rfl, by decide +kernel, rfl, by decide +kernel, by decide +kernel⟩
def m_law : MS := (mSeq (mFor (mRng1 (mCons (mCall max2D (mCons (mC (.int 1)) (mCons (mCall min2D (mCons (mC (.int 6)) (mCons (mCall lenD (mCons (mVar 0) mNil)) mNil))) mNil))) mNil)) (bName 1) (mSeq (mSet true 3 (mCallU diceD 2 none (mCons (mVar 0) (mCons (mVar 1) mNil))))
    (mFor (mAny (mCallU wordsD 0 none mNil)) (bName 4) (mSeq (mSet false 5 (mCallU pickD 2 (some (0, 3)) (mCons (mVar 3) (mCons (mLst (mCons (mC (.str "")) (mCons (mC (.str "a")) (mCons (mC (.str "two words")) (mCons (mOp mulD (mC (.str "x")) (mC (.int 300))) mNil))))) mNil))))
    (mSeq (mIf (mTest (mOp inD (mVar 4) (mLst (mCons (mC (.str "parse")) (mCons (mC (.str "unknown")) (mCons (mC (.str "number")) (mCons (mC (.str "many")) (mCons (mC (.str "refused")) (mCons (mC (.str "undo")) mNil))))))))) (mSeq (mSet false 7 (mLst (mCons (mC .non) (mCons (mC (.int 0)) (mCons (mC (.int 7)) (mCons (mC (.int (-3))) (mCons (mOp powD (mC (.int 10)) (mC (.int 39))) (mCons (mC (.bl true)) (mCons (mC (.str "")) (mCons (mC (.str "a")) (mCons (mC (.str "b.1 c")) (mCons (mTup mNil) (mCons (mTup (mCons (mC (.int 1)) (mCons (mC (.str "a")) mNil))) (mCons (mTup (mCons (mTup (mCons (mC (.str "bound")) (mCons (mC (.str "x")) mNil))) mNil)) mNil))))))))))))))
    (mSet false 5 (mCallU pickD 2 (some (0, 3)) (mCons (mVar 3) (mCons (mOp addD (mVar 7) (mLst (mCons (mTup (mCons (mC (.str "torn")) (mCons (mC (.str "a")) mNil))) (mCons (mLst mNil) (mCons mDct0 (mCons (mLst (mCons (mC (.int 1)) mNil)) (mCons (mDispS ["a"] (mCons (mC (.int 1)) mNil)) mNil))))))) mNil))))) mNx)
    (mSeq (mSet false 6 (mCallU madeD 2 none (mCons (mVar 4) (mCons (mVar 5) mNil))))
    (mIf (mOr (mTest (mOp neD (mCall reprD (mCons (mCallU keptD 2 none (mCons (mVar 4) (mCons (mVar 6) mNil))) mNil)) (mCall reprD (mCons (mVar 5) mNil)))) (mTest (mOp neD (mCallU kindsD 1 none (mCons (mVar 6) mNil)) (mCallU dueD 1 none (mCons (mVar 4) mNil))))) (mRet (mC (.bl false))) mNx)))))))
    (mSeq (mSet false 2 (mExc0 "DayError" (mCons (mC (.str "a day")) mNil)))
    (mRet (mAndV (mOp eqD (mCallU kindsD 1 none (mCons (mVar 2) mNil)) (mLst (mCons (mC (.str "DAY")) (mCons (mC (.str "VALUE")) mNil)))) (mOp eqD (mCall (strD strL) (mCons (mVar 2) mNil)) (mC (.str "a day")))))))
def lawD : List D → FRes := runD none 8 m_law
theorem ok_law {w : World} {K : PySem.W.Frag} {mg : Str → Option Value} {base : Heap} (T : Facts K mg) (G__law_dice : FnG PW w K mg base 1 T._law_dice.f T._law_dice.fd ["script", "spot"] (spD K mg none 2 diceD)) (G__law_pick : FnG PW w K mg base 2 T._law_pick.f T._law_pick.fd ["dice", "items"] (spD K mg (some 0) 2 pickD)) (G__law_made : FnG PW w K mg base 2 T._law_made.f T._law_made.fd ["word", "value"] (spD K mg none 2 madeD)) (G__law_kept : FnG PW w K mg base 1 T._law_kept.f T._law_kept.fd ["word", "error"] (spD K mg none 2 keptD)) (G__law_kinds : FnG PW w K mg base 1 T._law_kinds.f T._law_kinds.fd ["error"] (spD K mg none 1 kindsD)) (G__law_due : FnG PW w K mg base 1 T._law_due.f T._law_due.fd ["word"] (spD K mg none 1 dueD)) (G__law_words : FnG PW w K mg base 1 T._law_words.f T._law_words.fd [] (spD K mg none 0 wordsD))
    : FnG PW w K mg base 3 T.law.f T.law.fd ["script"] (spD K mg none 1 lawD) :=
  fnD T.law.F sc_law rfl (fun cdv A out s H vs E hr hgu => have sc_nd := sc_law.nd; (by exact (dss_cons (ds_for (passes_of rfl) rfl (di_rng1 rfl T.range (da_cons (de_callB (cr_max2 rfl) rfl T.max Q.bt_max (da_cons de_int (da_cons (de_callB (cr_min2 rfl) rfl T.min Q.bt_min (da_cons de_int (da_cons (de_callB (cr_len rfl) rfl T.len Q.bt_len (da_cons (de_var 0) da_nil)) da_nil))) da_nil))) da_nil)) (dg_name 1 sc_nd (io_ne (vs := vs) (io := (none : Option Nat)) (i := 1) (by decide))) (dss_cons (ds_set true 3 sc_nd (io_ne (vs := vs) (io := (none : Option Nat)) (i := 3) (by decide)) (de_call none (G__law_dice.mono (by decide)) hr hgu rfl T._law_dice.mg T._law_dice.F.kp T._law_dice.b (takes_of rfl rfl rfl rfl) (da_cons (de_var 0) (da_cons (de_var 1) da_nil))))
    (dss_one (ds_for (passes_of rfl) rfl (di_any rfl (de_call0 (G__law_words.mono (by decide)) hr hgu rfl T._law_words.mg T._law_words.F.kp T._law_words.b (takes_of rfl rfl rfl rfl))) (dg_name 4 sc_nd (io_ne (vs := vs) (io := (none : Option Nat)) (i := 4) (by decide))) (dss_cons (ds_set false 5 sc_nd (io_ne (vs := vs) (io := (none : Option Nat)) (i := 5) (by decide)) (de_call (some (0, 3)) (G__law_pick.mono (by decide)) hr hgu rfl T._law_pick.mg T._law_pick.F.kp T._law_pick.b (takes_of rfl rfl rfl rfl) (da_cons (de_var 3) (da_cons (de_lst (da_cons de_str (da_cons de_str (da_cons de_str (da_cons (de_op (opr_mul) de_str de_int) da_nil))))) da_nil))))
    (dss_cons (ds_if (dt_cmp (opr_in rfl hr.units) rfl (de_var 4) (de_lst (da_cons de_str (da_cons de_str (da_cons de_str (da_cons de_str (da_cons de_str (da_cons de_str da_nil)))))))) (dss_cons (ds_set false 7 sc_nd (io_ne (vs := vs) (io := (none : Option Nat)) (i := 7) (by decide)) (de_lst (da_cons de_non (da_cons de_int (da_cons de_int (da_cons de_neg (da_cons (de_op (opr_pow) de_int de_int) (da_cons de_bl (da_cons de_str (da_cons de_str (da_cons de_str (da_cons (de_tup da_nil) (da_cons (de_tup (da_cons de_int (da_cons de_str da_nil))) (da_cons (de_tup (da_cons (de_tup (da_cons de_str (da_cons de_str da_nil))) da_nil)) da_nil))))))))))))))
    (dss_one (ds_set false 5 sc_nd (io_ne (vs := vs) (io := (none : Option Nat)) (i := 5) (by decide)) (de_call (some (0, 3)) (G__law_pick.mono (by decide)) hr hgu rfl T._law_pick.mg T._law_pick.F.kp T._law_pick.b (takes_of rfl rfl rfl rfl) (da_cons (de_var 3) (da_cons (de_op (opr_add rfl) (de_var 7) (de_lst (da_cons (de_tup (da_cons de_str (da_cons de_str da_nil))) (da_cons (de_lst da_nil) (da_cons de_dct0 (da_cons (de_lst (da_cons de_int da_nil)) (da_cons (de_dispS (dps_cons de_int dps_nil) rfl rfl (fun z => by cases z) (by decide)) da_nil))))))) da_nil)))))) dss_nil)
    (dss_cons (ds_set false 6 sc_nd (io_ne (vs := vs) (io := (none : Option Nat)) (i := 6) (by decide)) (de_call none (G__law_made.mono (by decide)) hr hgu rfl T._law_made.mg T._law_made.F.kp T._law_made.b (takes_of rfl rfl rfl rfl) (da_cons (de_var 4) (da_cons (de_var 5) da_nil))))
    (dss_one (ds_if (dt_w (dw_or (dt_cmp (opr_ne rfl hr.units) (nomark _) (de_callB (cr_repr hgu hr.units rfl) rfl T.repr Q.bt_repr (da_cons (de_call none (G__law_kept.mono (by decide)) hr hgu rfl T._law_kept.mg T._law_kept.F.kp T._law_kept.b (takes_of rfl rfl rfl rfl) (da_cons (de_var 4) (da_cons (de_var 6) da_nil))) da_nil)) (de_callB (cr_repr hgu hr.units rfl) rfl T.repr Q.bt_repr (da_cons (de_var 5) da_nil))) (dw_or1 (dt_cmp (opr_ne rfl hr.units) (nomark _) (de_call none (G__law_kinds.mono (by decide)) hr hgu rfl T._law_kinds.mg T._law_kinds.F.kp T._law_kinds.b (takes_of rfl rfl rfl rfl) (da_cons (de_var 6) da_nil)) (de_call none (G__law_due.mono (by decide)) hr hgu rfl T._law_due.mg T._law_due.F.kp T._law_due.b (takes_of rfl rfl rfl rfl) (da_cons (de_var 4) da_nil)))))) (dss_one (ds_ret de_bl)) dss_nil)))))))))
    (dss_cons (ds_set false 2 sc_nd (io_ne (vs := vs) (io := (none : Option Nat)) (i := 2) (by decide)) (de_exc0 PySem.F.excBase_ValueError T.c_DayError.ex T.c_DayError.gC rfl rfl (da_cons de_str da_nil)))
    (dss_one (ds_ret (de_and (de_cmp (opr_eq rfl hr.units) (nomark _) (de_call none (G__law_kinds.mono (by decide)) hr hgu rfl T._law_kinds.mg T._law_kinds.F.kp T._law_kinds.b (takes_of rfl rfl rfl rfl) (da_cons (de_var 2) da_nil)) (de_lst (da_cons de_str (da_cons de_str da_nil)))) (de_one (de_cmp (opr_eq rfl hr.units) (nomark _) (de_callTy (cr_strE (L := strL) rfl hr.units T.strOk) rfl T.str Q.bt_str (da_cons (de_var 2) da_nil)) de_str))))))))) (fun _ _ _ => rfl)
end K01

set_option linter.all false
set_option maxRecDepth 100000
set_option maxHeartbeats 4000000
namespace K01
open PySem PySem.Spec PyProof.Rows L2 Q
/-- the dice as they stand between two rolls -/
structure Good (a b c : Int) (k : Nat) : Prop where
  a0 : 0 ≤ a
  a1 : a < 10 ^ 600
  b0 : 0 ≤ b
  b1 : b < 2 ^ 60
  c0 : 0 ≤ c
  c1 : c ≤ k
theorem log_small {i : Int} {n : Nat} (h0 : 0 ≤ i) (h : i < 2 ^ n) (hn : 0 < n) : i.natAbs.log2 < n := by
  by_cases hz : i.natAbs = 0
  · rw [hz]; simpa using hn
  · rw [Nat.log2_lt hz]
    have : (i.natAbs : Int) = i := by omega
    have h' : (i.natAbs : Int) < ((2 ^ n : Nat) : Int) := by rw [this]; push_cast; exact h
    exact_mod_cast h'
def dice (a b c : Int) : D := .lst [.int a, .int b, .int c]
theorem roll_ok {a b c t : Int} {k : Nat} (g : Good a b c k) (hk : k ≤ 1000) (t0 : 0 < t) (t1 : t ≤ 100) : ∃ r a' c', rollD [dice a b c, .int t] = .ok false (.int r) (dice a' b c') ∧ 0 ≤ r ∧ r < t ∧ Good a' b c' (k + 1) := by
  obtain ⟨a0, a1, b0, b1, c0, c1⟩ := g
  have lt9 : t.natAbs.log2 < 9000 := by
    have := log_small (i := t) (n := 7) (by omega) (by omega) (by omega)
    omega
  by_cases ha : a > 0
  · refine ⟨a % t, a / t, c, ?_, Int.emod_nonneg _ (by omega), Int.emod_lt_of_pos _ t0, ⟨Int.ediv_nonneg a0 (by omega), ?_, b0, b1, c0, by push_cast; omega⟩⟩
    · simp [rollD, runD, m__law_roll, dice, startD, endD, outD, mSeq, mIf, mTest, mOp, mVar, mC, mSet, setVal, mSetIx, mRet, mNx, DRes.bind, DVal.view, OR.res, ixD, atI, gtD, modD, fdivD, frees, ixN, ha, t0, lt9]
    · have : a / t ≤ a := Int.ediv_le_self _ a0
      omega
  · have a00 : a = 0 := by omega
    subst a00
    have lc : (c + 1).natAbs.log2 < 12 := log_small (n := 12) (by omega) (by omega) (by omega)
    have lm : ∀ (i m : Int) (n : Nat), 0 < m → m < 2 ^ n → 0 < n → (i % m).natAbs.log2 < n := fun i m n m0 mn n0 => log_small (Int.emod_nonneg _ (by omega)) (by have := Int.emod_lt_of_pos i m0; omega) n0
    let one := (b + 654188429 * (c + 1)) % 2305843009213693907
    have l1 : one.natAbs.log2 < 62 := lm _ _ 62 (by decide) (by decide) (by decide)
    let two := one * one % 1152921504606846871 * one + 8191 * (c + 1)
    have l2 : (one * one % 1152921504606846871).natAbs.log2 < 62 := lm _ _ 62 (by decide) (by decide) (by decide)
    have k0 : Nat.log2 654188429 < 40 := by decide
    have k1 : Nat.log2 8191 < 40 := by decide
    have e1 : Nat.log2 654188429 + (c + 1).natAbs.log2 < 1000000 := by omega
    have e2 : one.natAbs.log2 + one.natAbs.log2 < 1000000 := by omega
    have e3 : (one * one % 1152921504606846871).natAbs.log2 + one.natAbs.log2 < 1000000 := by omega
    have e4 : Nat.log2 8191 + (c + 1).natAbs.log2 < 1000000 := by omega
    have e5 : Nat.log2 64 < 9000 := by decide
    refine ⟨(two + b) % 8796093022151 / 64 % t, 0, c + 1, ?_, Int.emod_nonneg _ (by omega), Int.emod_lt_of_pos _ t0, ⟨Int.le_refl 0, a1, b0, b1, by omega, by push_cast; omega⟩⟩
    simp only [one] at e2 e3
    simp [rollD, runD, m__law_roll, dice, startD, endD, outD, mSeq, mIf, mTest, mOp, mVar, mC, mSet, setVal, mSetIx, mRet, mNx, DRes.bind, DVal.view, OR.res, ixD, atI, gtD, modD, fdivD, mulD, addD, frees, ixN, t0, e1, e2, e3, e4, e5, one, two]
theorem pick_ok {a b c : Int} {k : Nat} (g : Good a b c k) (hk : k ≤ 1000) {items : List D} (h0 : 0 < items.length) (h1 : items.length ≤ 100) : ∃ r a' c', r ∈ items ∧ pickD [dice a b c, .lst items] = .ok false r (dice a' b c') ∧ Good a' b c' (k + 1) := by
  obtain ⟨i, a', c', e, i0, i1, g'⟩ := roll_ok g hk (t := items.length) (by omega) (by omega)
  have hi : i.toNat < items.length := by omega
  refine ⟨items[i.toNat], a', c', List.getElem_mem _, ?_, g'⟩
  have ha : atI items i = some items[i.toNat] := by
    unfold atI ixN
    rw [if_pos i0, if_pos i1]
    simp
  have ea : argsD [.own (dice a b c), .sh (.lst items)] (some (0, 0)) 0 [.own 0, .sh (.int items.length)] = some [dice a b c, .int items.length] := by rfl
  show endD (some 0) (m__law_pick (startD (some 0) 2 [dice a b c, .lst items])) = _
  have es : startD (some 0) 2 [dice a b c, .lst items] = [.own (dice a b c), .sh (.lst items)] := by rfl
  rw [es]
  have em : mCallU rollD 2 (some (0, 0)) (mCons (mVar 0) (mCons (mCall lenD (mCons (mVar 1) mNil)) mNil)) [.own (dice a b c), .sh (.lst items)] = .ok (.sh (.int i)) [.own (dice a' b c'), .sh (.lst items)] := by
    have e0 : mCallU rollD 2 (some (0, 0)) (mCons (mVar 0) (mCons (mCall lenD (mCons (mVar 1) mNil)) mNil)) [.own (dice a b c), .sh (.lst items)] = (match rollD [dice a b c, .int items.length] with
      | .ok fr r out => .ok (if fr then .new r else .sh r) (outE (some (0, 0)) out [.own (dice a b c), .sh (.lst items)])
      | .exc x out => .exc x (outE (some (0, 0)) out [.own (dice a b c), .sh (.lst items)])
      | .stuck => .stuck) := by rfl
    rw [e0, e]
    rfl
  have ep : m__law_pick [.own (dice a b c), .sh (.lst items)] = .ok (.rt (.sh items[i.toNat])) [.own (dice a' b c'), .sh (.lst items)] := by
    show mRet (mOp ixD (mVar 1) (mCallU rollD 2 (some (0, 0)) (mCons (mVar 0) (mCons (mCall lenD (mCons (mVar 1) mNil)) mNil)))) _ = _
    have e2 : mRet (mOp ixD (mVar 1) (mCallU rollD 2 (some (0, 0)) (mCons (mVar 0) (mCons (mCall lenD (mCons (mVar 1) mNil)) mNil)))) [.own (dice a b c), .sh (.lst items)] = ((mCallU rollD 2 (some (0, 0)) (mCons (mVar 0) (mCons (mCall lenD (mCons (mVar 1) mNil)) mNil)) [.own (dice a b c), .sh (.lst items)]).bind fun y e2 => match (DVal.sh (D.lst items)).view e2, y.view e2 with
      | some a, some b => (ixD a b).res e2
      | _, _ => .stuck).bind fun x e => .ok (.rt x) e := by rfl
    rw [e2, em]
    show ((ixD (D.lst items) (.int i)).res _).bind _ = _
    show (DRes.bind (OR.res (match atI items i with | some d => OR.sh d | none => .stuck) _) _) = _
    rw [ha]
    rfl
  rw [ep]
  rfl
section
variable {e : DEnv} {A B : ME} {a b r d : D} {i : Nat} {ow : Bool} {R : MS}
theorem op_at {f : D → D → OR} (ha : A e = .ok (.sh a) e) (hb : B e = .ok (.sh b) e) (hf : f a b = .sh r) : mOp f A B e = .ok (.sh r) e := by
  unfold mOp
  rw [ha]
  show (B e).bind _ = _
  rw [hb]
  show (f a b).res e = _
  rw [hf]; rfl
theorem call1_at {f : List D → OR} (ha : A e = .ok (.sh a) e) (hf : f [a] = .sh r) : mCall f (mCons A mNil) e = .ok (.sh r) e := by
  unfold mCall mCons
  rw [ha]
  show (f [a]).res e = _
  rw [hf]; rfl
theorem call2_at {f : List D → OR} (ha : A e = .ok (.sh a) e) (hb : B e = .ok (.sh b) e) (hf : f [a, b] = .sh r) : mCall f (mCons A (mCons B mNil)) e = .ok (.sh r) e := by
  unfold mCall mCons
  rw [ha]
  show (DRes.bind ((B e).bind _) _).bind _ = _
  rw [hb]
  show (f [a, b]).res e = _
  rw [hf]; rfl
theorem seq_set (h : A e = .ok (.sh d) e) : mSeq (mSet ow i A) R e = R (e.set i (.sh d)) := by
  unfold mSeq mSet
  rw [h]; rfl
end
theorem mod_at (x y : Int) (h : 0 < y) : modD (.int x) (.int y) = .sh (.int (x % y)) := by
  unfold modD
  exact if_pos h
theorem mul_at (x y : Int) (h : x.natAbs.log2 + y.natAbs.log2 < 1000000) : mulD (.int x) (.int y) = .sh (.int (x * y)) := by
  unfold mulD
  exact if_pos h
theorem lst3_at {e : DEnv} {A B C : ME} {a b c : D} (ha : A e = .ok (.sh a) e) (hb : B e = .ok (.sh b) e) (hc : C e = .ok (.sh c) e) : mLst (mCons A (mCons B (mCons C mNil))) e = .ok (.new (.lst [a, b, c])) e := by
  have h : mCons A (mCons B (mCons C mNil)) e = .ok [.sh a, .sh b, .sh c] e := by
    unfold mCons
    rw [ha]
    show DRes.bind ((B e).bind _) _ = _
    rw [hb]
    show DRes.bind (DRes.bind ((C e).bind _) _) _ = _
    rw [hc]
    rfl
  unfold mLst
  rw [h]
  rfl
theorem pow600 (e : DEnv) : mOp powD (mOp powD (mC (.int 10)) (mC (.int 60))) (mC (.int 10)) e = .ok (.sh (.int (10 ^ 600))) e := by kernel_rfl
theorem pow16 (e : DEnv) : mOp powD (mC (.int 10)) (mC (.int 16)) e = .ok (.sh (.int (10 ^ 16))) e := by kernel_rfl
theorem dice_ok (ns : List Int) {s : Int} (s0 : 0 ≤ s) (s1 : s < 1000) : ∃ a b, diceD [.lst (ns.map D.int), .int s] = .ok true (dice a b 0) .non ∧ Good a b 0 0 := by
  let E0 : DEnv := [.sh (.lst (ns.map D.int)), .sh (.int s), .no, .no, .no]
  have es : startD none 5 [.lst (ns.map D.int), .int s] = E0 := by rfl
  obtain ⟨c, hc⟩ : ∃ c : Int, (mIfE (mTest (mOp ltD (mVar 1) (mCall lenD (mCons (mVar 0) mNil)))) (mCall intD (mCons (mOp ixD (mVar 0) (mVar 1)) mNil)) (mOp addD (mOp mulD (mC (.int 521)) (mVar 1)) (mC (.int 89)))) E0 = .ok (.sh (.int c)) E0 := by
    have ht : mTest (mOp ltD (mVar 1) (mCall lenD (mCons (mVar 0) mNil))) E0 = .ok (decide (s < ((ns.map D.int).length : Int))) E0 := by rfl
    by_cases hl : s < ((ns.map D.int).length : Int)
    · have hl2 : s.toNat < ns.length := by rw [List.length_map] at hl; omega
      refine ⟨ns[s.toNat], ?_⟩
      unfold mIfE
      rw [ht, decide_eq_true hl]
      show mCall intD (mCons (mOp ixD (mVar 0) (mVar 1)) mNil) E0 = _
      refine call1_at (a := .int ns[s.toNat]) (op_at (a := .lst (ns.map D.int)) (b := .int s) rfl rfl ?_) rfl
      have ha : atI (ns.map D.int) s = some (.int ns[s.toNat]) := by
        unfold atI ixN
        rw [if_pos s0, if_pos hl]
        show (ns.map D.int)[s.toNat]? = _
        rw [List.getElem?_map, List.getElem?_eq_getElem hl2]; rfl
      show (match atI (ns.map D.int) s with | some d => OR.sh d | none => .stuck) = _
      rw [ha]
    · refine ⟨521 * s + 89, ?_⟩
      unfold mIfE
      rw [ht, decide_eq_false hl]
      show mOp addD (mOp mulD (mC (.int 521)) (mVar 1)) (mC (.int 89)) E0 = _
      refine op_at (a := .int (521 * s)) (b := .int 89) (op_at (a := .int 521) (b := .int s) rfl rfl ?_) rfl rfl
      have l1 : s.natAbs.log2 < 12 := log_small (n := 12) s0 (by omega) (by omega)
      have l2 : (521 : Int).natAbs.log2 < 12 := by decide
      exact mul_at _ _ (by omega)
  let w : Int := (if c < 0 then -c else c) % 10 ^ 600
  have w0 : 0 ≤ w := Int.emod_nonneg _ (by decide)
  have w1 : w < 10 ^ 600 := Int.emod_lt_of_pos _ (by decide)
  let E1 : DEnv := [.sh (.lst (ns.map D.int)), .sh (.int s), .sh (.int c), .no, .no]
  let E2 : DEnv := [.sh (.lst (ns.map D.int)), .sh (.int s), .sh (.int c), .sh (.int w), .no]
  have h2 : mOp modD (mCall absD (mCons (mVar 2) mNil)) (mOp powD (mOp powD (mC (.int 10)) (mC (.int 60))) (mC (.int 10))) E1 = .ok (.sh (.int w)) E1 :=
    op_at (call1_at (a := .int c) (r := .int (if c < 0 then -c else c)) rfl rfl) (pow600 E1) (mod_at _ _ (by decide))
  have lw : w.natAbs.log2 < 2000 := log_small (n := 2000) w0 (Int.lt_trans w1 (by decide)) (by omega)
  have ls : s.natAbs.log2 < 12 := log_small (n := 12) s0 (by omega) (by omega)
  let m : Int := w * 1000193 + 7919 * s + 37 * (if decide (c < 0) = true then 1 else 0) + 11
  have h3 : mOp addD (mOp addD (mOp addD (mOp mulD (mVar 3) (mC (.int 1000193))) (mOp mulD (mC (.int 7919)) (mVar 1))) (mOp mulD (mC (.int 37)) (mCall intD (mCons (mOp ltD (mVar 2) (mC (.int 0))) mNil)))) (mC (.int 11)) E2 = .ok (.sh (.int m)) E2 := by
    have q1 : (1000193 : Int).natAbs.log2 < 30 := by decide
    have q2 : (7919 : Int).natAbs.log2 < 30 := by decide
    have q3 : (37 : Int).natAbs.log2 < 30 := by decide
    have q4 : (if decide (c < 0) = true then (1 : Int) else 0).natAbs.log2 < 30 := by split <;> decide
    refine op_at (op_at (op_at (op_at (a := .int w) (b := .int 1000193) rfl rfl (mul_at _ _ (by omega))) (op_at (a := .int 7919) (b := .int s) rfl rfl (mul_at _ _ (by omega))) rfl) (op_at (a := .int 37) rfl (call1_at (a := .bl (decide (c < 0))) (op_at (a := .int c) (b := .int 0) rfl rfl rfl) rfl) (mul_at _ _ (by omega))) rfl) (b := .int 11) rfl rfl
  let E3 : DEnv := [.sh (.lst (ns.map D.int)), .sh (.int s), .sh (.int c), .sh (.int w), .sh (.int m)]
  let a : Int := if w - 10 ^ 16 > 0 then w - 10 ^ 16 else 0
  have h4 : mCall max2D (mCons (mC (.int 0)) (mCons (mOp subD (mVar 3) (mOp powD (mC (.int 10)) (mC (.int 16)))) mNil)) E3 = .ok (.sh (.int a)) E3 :=
    call2_at (a := .int 0) (b := .int (w - 10 ^ 16)) rfl (op_at (a := .int w) rfl (pow16 E3) rfl) rfl
  have h5 : mOp modD (mVar 4) (mC (.int 1152921504606846883)) E3 = .ok (.sh (.int (m % 1152921504606846883))) E3 := op_at (a := .int m) (b := .int 1152921504606846883) rfl rfl (mod_at _ _ (by decide))
  have b0 := Int.emod_nonneg m (show (1152921504606846883 : Int) ≠ 0 by decide)
  have b1 := Int.emod_lt_of_pos m (show (0 : Int) < 1152921504606846883 by decide)
  refine ⟨a, m % 1152921504606846883, ?_, ⟨?_, ?_, b0, by omega, Int.le_refl 0, Int.le_refl 0⟩⟩
  · show endD none (m__law_dice (startD none 5 [.lst (ns.map D.int), .int s])) = _
    rw [es]
    unfold m__law_dice
    rw [seq_set hc]
    show endD none (mSeq (mSet false 3 _) _ E1) = _
    rw [seq_set h2]
    show endD none (mSeq (mSet false 4 _) _ E2) = _
    rw [seq_set h3]
    show endD none (mRet (mLst (mCons _ (mCons _ (mCons (mC (.int 0)) mNil)))) E3) = _
    unfold mRet
    rw [lst3_at h4 h5 (C := mC (.int 0)) rfl]
    rfl
  · show 0 ≤ (if w - 10 ^ 16 > 0 then w - 10 ^ 16 else 0)
    split <;> omega
  · show (if w - 10 ^ 16 > 0 then w - 10 ^ 16 else 0) < 10 ^ 600
    split
    · omega
    · decide
end K01

set_option linter.all false
set_option maxRecDepth 100000
set_option maxHeartbeats 4000000
namespace K01
open PySem PySem.Spec PyProof.Rows L2 Q
def kL4 : ME := (mLst (mCons (mC (.str "")) (mCons (mC (.str "a")) (mCons (mC (.str "two words")) (mCons (mOp mulD (mC (.str "x")) (mC (.int 300))) mNil)))))
def kL12 : ME := (mLst (mCons (mC .non) (mCons (mC (.int 0)) (mCons (mC (.int 7)) (mCons (mC (.int (-3))) (mCons (mOp powD (mC (.int 10)) (mC (.int 39))) (mCons (mC (.bl true)) (mCons (mC (.str "")) (mCons (mC (.str "a")) (mCons (mC (.str "b.1 c")) (mCons (mTup mNil) (mCons (mTup (mCons (mC (.int 1)) (mCons (mC (.str "a")) mNil))) (mCons (mTup (mCons (mTup (mCons (mC (.str "bound")) (mCons (mC (.str "x")) mNil))) mNil)) mNil)))))))))))))
def kL17 : ME := (mOp addD (mVar 7) (mLst (mCons (mTup (mCons (mC (.str "torn")) (mCons (mC (.str "a")) mNil))) (mCons (mLst mNil) (mCons mDct0 (mCons (mLst (mCons (mC (.int 1)) mNil)) (mCons (mDispS ["a"] (mCons (mC (.int 1)) mNil)) mNil)))))))
def kTest : MT := (mTest (mOp inD (mVar 4) (mLst (mCons (mC (.str "parse")) (mCons (mC (.str "unknown")) (mCons (mC (.str "number")) (mCons (mC (.str "many")) (mCons (mC (.str "refused")) (mCons (mC (.str "undo")) mNil)))))))))
def kTail : MS := (mSeq (mSet false 6 (mCallU madeD 2 none (mCons (mVar 4) (mCons (mVar 5) mNil))))
    (mIf (mOr (mTest (mOp neD (mCall reprD (mCons (mCallU keptD 2 none (mCons (mVar 4) (mCons (mVar 6) mNil))) mNil)) (mCall reprD (mCons (mVar 5) mNil)))) (mTest (mOp neD (mCallU kindsD 1 none (mCons (mVar 6) mNil)) (mCallU dueD 1 none (mCons (mVar 4) mNil))))) (mRet (mC (.bl false))) mNx))
def kEnd : MS := (mSeq (mSet false 2 (mExc0 "DayError" (mCons (mC (.str "a day")) mNil)))
    (mRet (mAndV (mOp eqD (mCallU kindsD 1 none (mCons (mVar 2) mNil)) (mLst (mCons (mC (.str "DAY")) (mCons (mC (.str "VALUE")) mNil)))) (mOp eqD (mCall (strD strL) (mCons (mVar 2) mNil)) (mC (.str "a day"))))))
def kRng : MI := (mRng1 (mCons (mCall max2D (mCons (mC (.int 1)) (mCons (mCall min2D (mCons (mC (.int 6)) (mCons (mCall lenD (mCons (mVar 0) mNil)) mNil))) mNil))) mNil))
def kDC : ME := (mCallU diceD 2 none (mCons (mVar 0) (mCons (mVar 1) mNil)))

def kWord : MS := mSeq (mSet false 5 (mCallU pickD 2 (some (0, 3)) (mCons (mVar 3) (mCons kL4 mNil)))) (mSeq (mIf kTest (mSeq (mSet false 7 kL12) (mSet false 5 (mCallU pickD 2 (some (0, 3)) (mCons (mVar 3) (mCons kL17 mNil))))) mNx) kTail)
def kWords : MI := mAny (mCallU wordsD 0 none mNil)
theorem law_eq : m_law = mSeq (mFor kRng (bName 1) (mSeq (mSet true 3 kDC) (mFor kWords (bName 4) kWord))) kEnd := rfl
def W10 : List Str := ["name", "net", "row", "table", "course", "way", "day", "deal", "operation", "command"]
def W6 : List Str := ["parse", "unknown", "number", "many", "refused", "undo"]
def X300 : Str := ⟨(List.replicate (300 : Int).toNat ("x" : Str).cps).foldl (· ++ ·) #[]⟩
def V4 : List D := [.str "", .str "a", .str "two words", .str X300]
def V12 : List D := [.non, .int 0, .int 7, .int (-3), .int (10 ^ 39), .bl true, .str "", .str "a", .str "b.1 c", .tup [], .tup [.int 1, .str "a"], .tup [.tup [.str "bound", .str "x"]]]
def V5 : List D := [.tup [.str "torn", .str "a"], .lst [], .dct [], .lst [.int 1], .dct [(.str "a", .int 1)]]
def errOf (w : Str) (v : D) : D := match madeD [.str w, v] with
  | .ok _ r _ => r
  | _ => .non
theorem l4 (s0 s1 s2 s3 s4 s5 s6 s7 : DSlot) : kL4 [s0, s1, s2, s3, s4, s5, s6, s7] = .ok (.new (.lst V4)) [s0, s1, s2, s3, s4, s5, s6, s7] := by kernel_rfl
theorem l12 (s0 s1 s2 s3 s4 s5 s6 s7 : DSlot) : kL12 [s0, s1, s2, s3, s4, s5, s6, s7] = .ok (.new (.lst V12)) [s0, s1, s2, s3, s4, s5, s6, s7] := by kernel_rfl
theorem l17 (s0 s1 s2 s3 s4 s5 s6 : DSlot) : kL17 [s0, s1, s2, s3, s4, s5, s6, .sh (.lst V12)] = .ok (.new (.lst (V12 ++ V5))) [s0, s1, s2, s3, s4, s5, s6, .sh (.lst V12)] := by kernel_rfl
theorem words (s0 s1 s2 s3 s4 s5 s6 s7 : DSlot) : kWords [s0, s1, s2, s3, s4, s5, s6, s7] = .ok ((W10 ++ W6).map D.str) [s0, s1, s2, s3, s4, s5, s6, s7] := by kernel_rfl
theorem test10 : ∀ w ∈ W10, ∀ s0 s1 s2 s3 s5 s6 s7 : DSlot, kTest [s0, s1, s2, s3, .sh (.str w), s5, s6, s7] = .ok false [s0, s1, s2, s3, .sh (.str w), s5, s6, s7] := by
  intro w hw
  simp only [W10, List.mem_cons, List.not_mem_nil, or_false] at hw
  rcases hw with rfl | rfl | rfl | rfl | rfl | rfl | rfl | rfl | rfl | rfl <;> (intro s0 s1 s2 s3 s5 s6 s7; kernel_rfl)
theorem test6 : ∀ w ∈ W6, ∀ s0 s1 s2 s3 s5 s6 s7 : DSlot, kTest [s0, s1, s2, s3, .sh (.str w), s5, s6, s7] = .ok true [s0, s1, s2, s3, .sh (.str w), s5, s6, s7] := by
  intro w hw
  simp only [W6, List.mem_cons, List.not_mem_nil, or_false] at hw
  rcases hw with rfl | rfl | rfl | rfl | rfl | rfl <;> (intro s0 s1 s2 s3 s5 s6 s7; kernel_rfl)
theorem tail10 : ∀ w ∈ W10, ∀ v ∈ V4, ∀ s0 s1 s2 s3 s6 s7 : DSlot, kTail [s0, s1, s2, s3, .sh (.str w), .sh v, s6, s7] = .ok .nx [s0, s1, s2, s3, .sh (.str w), .sh v, .sh (errOf w v), s7] := by
  intro w hw v hv
  simp only [W10, List.mem_cons, List.not_mem_nil, or_false] at hw
  simp only [V4, List.mem_cons, List.not_mem_nil, or_false] at hv
  rcases hw with rfl | rfl | rfl | rfl | rfl | rfl | rfl | rfl | rfl | rfl <;> rcases hv with rfl | rfl | rfl | rfl <;> (intro s0 s1 s2 s3 s6 s7; kernel_rfl)
theorem tail6 : ∀ w ∈ W6, ∀ v ∈ V12 ++ V5, ∀ s0 s1 s2 s3 s6 s7 : DSlot, kTail [s0, s1, s2, s3, .sh (.str w), .sh v, s6, s7] = .ok .nx [s0, s1, s2, s3, .sh (.str w), .sh v, .sh (errOf w v), s7] := by
  intro w hw v hv
  simp only [W6, List.mem_cons, List.not_mem_nil, or_false] at hw
  simp only [V12, V5, List.cons_append, List.nil_append, List.mem_cons, List.not_mem_nil, or_false] at hv
  rcases hw with rfl | rfl | rfl | rfl | rfl | rfl <;> rcases hv with rfl | rfl | rfl | rfl | rfl | rfl | rfl | rfl | rfl | rfl | rfl | rfl | rfl | rfl | rfl | rfl | rfl <;> (intro s0 s1 s2 s3 s6 s7; kernel_rfl)
theorem end_ok (s0 s1 s2 s3 s4 s5 s6 s7 : DSlot) : ∃ e, kEnd [s0, s1, s2, s3, s4, s5, s6, s7] = .ok (.rt (.sh (.bl true))) e := ⟨[s0, s1, .sh (.exc "DayError" (some "a day") []), s3, s4, s5, s6, s7], by kernel_rfl⟩
end K01

set_option linter.all false
set_option maxRecDepth 100000
set_option maxHeartbeats 4000000
namespace K01
open PySem PySem.Spec PyProof.Rows L2 Q
def callRes (io : Option (Nat × Nat)) (e : DEnv) : FRes → DRes DVal
  | .ok fr r out => .ok (if fr then .new r else .sh r) (outE io out e)
  | .exc x out => .exc x (outE io out e)
  | .stuck => .stuck
theorem seq_nx {e e' : DEnv} {M R : MS} (h : M e = .ok .nx e') : mSeq M R e = R e' := by
  unfold mSeq
  rw [h]; rfl
theorem set_new {e : DEnv} {A : ME} {d : D} {i : Nat} {ow : Bool} (h : A e = .ok (.new d) e) : mSet ow i A e = .ok .nx (e.set i (if ow then .own d else .sh d)) := by
  unfold mSet
  rw [h]; rfl
theorem if_at {e : DEnv} {t : MT} {b : Bool} {M N : MS} (h : t e = .ok b e) : mIf t M N e = if b then M e else N e := by
  unfold mIf
  rw [h]
  cases b <;> rfl
/-- a pick out of a list that is laid here -/
theorem pick_set {s0 s1 s2 s4 s5 s6 s7 : DSlot} {a b c : Int} {k : Nat} {L : ME} {items : List D} (g : Good a b c k) (hk : k ≤ 1000) (h0 : 0 < items.length) (h1 : items.length ≤ 100)
    (hL : L [s0, s1, s2, .own (dice a b c), s4, s5, s6, s7] = .ok (.new (.lst items)) [s0, s1, s2, .own (dice a b c), s4, s5, s6, s7]) :
    ∃ v a' c', v ∈ items ∧ Good a' b c' (k + 1) ∧ mSet false 5 (mCallU pickD 2 (some (0, 3)) (mCons (mVar 3) (mCons L mNil))) [s0, s1, s2, .own (dice a b c), s4, s5, s6, s7] = .ok .nx [s0, s1, s2, .own (dice a' b c'), s4, .sh v, s6, s7] := by
  obtain ⟨v, a', c', hv, e, g'⟩ := pick_ok g hk h0 h1
  refine ⟨v, a', c', hv, g', ?_⟩
  have e0 : mCallU pickD 2 (some (0, 3)) (mCons (mVar 3) (mCons L mNil)) [s0, s1, s2, .own (dice a b c), s4, s5, s6, s7] = .ok (.sh v) [s0, s1, s2, .own (dice a' b c'), s4, s5, s6, s7] := by
    have e1 : mCons (mVar 3) (mCons L mNil) [s0, s1, s2, .own (dice a b c), s4, s5, s6, s7] = .ok [.own 3, .new (.lst items)] [s0, s1, s2, .own (dice a b c), s4, s5, s6, s7] := by
      unfold mCons
      show DRes.bind ((L [s0, s1, s2, .own (dice a b c), s4, s5, s6, s7]).bind _) _ = _
      rw [hL]; rfl
    unfold mCallU
    rw [e1]
    show callRes (some (0, 3)) [s0, s1, s2, .own (dice a b c), s4, s5, s6, s7] (pickD [dice a b c, .lst items]) = _
    rw [e]; rfl
  unfold mSet
  rw [e0]; rfl
theorem word_ok {w : Str} (hw : w ∈ W10 ++ W6) {s0 s1 s2 s5 s6 s7 : DSlot} {a b c : Int} {k : Nat} (g : Good a b c k) (hk : k ≤ 900) :
    ∃ a' c' x5 x6 x7, Good a' b c' (k + 2) ∧ kWord [s0, s1, s2, .own (dice a b c), .sh (.str w), s5, s6, s7] = .ok .nx [s0, s1, s2, .own (dice a' b c'), .sh (.str w), x5, x6, x7] := by
  obtain ⟨v, a1, c1, hv, g1, e1⟩ := pick_set (s0 := s0) (s1 := s1) (s2 := s2) (s4 := .sh (.str w)) (s5 := s5) (s6 := s6) (s7 := s7) g (by omega) (items := V4) (by decide) (by decide) (l4 ..)
  unfold kWord
  rw [seq_nx e1]
  rcases List.mem_append.mp hw with h | h
  · refine ⟨a1, c1, .sh v, .sh (errOf w v), s7, ⟨g1.a0, g1.a1, g1.b0, g1.b1, g1.c0, by have := g1.c1; push_cast at this ⊢; omega⟩, ?_⟩
    rw [seq_nx (e' := [s0, s1, s2, .own (dice a1 b c1), .sh (.str w), .sh v, s6, s7]) (by rw [if_at (test10 w h ..)]; rfl)]
    exact tail10 w h v hv ..
  · have e2 := set_new (ow := false) (i := 7) (l12 s0 s1 s2 (.own (dice a1 b c1)) (.sh (.str w)) (.sh v) s6 s7)
    obtain ⟨v2, a2, c2, hv2, g2, e3⟩ := pick_set (s0 := s0) (s1 := s1) (s2 := s2) (s4 := .sh (.str w)) (s5 := .sh v) (s6 := s6) (s7 := .sh (.lst V12)) g1 (by omega) (items := V12 ++ V5) (by decide) (by decide) (l17 ..)
    refine ⟨a2, c2, .sh v2, .sh (errOf w v2), .sh (.lst V12), g2, ?_⟩
    rw [seq_nx (e' := [s0, s1, s2, .own (dice a2 b c2), .sh (.str w), .sh v2, s6, .sh (.lst V12)]) (by rw [if_at (test6 w h ..), if_pos rfl, seq_nx e2]; exact e3)]
    exact tail6 w h v2 hv2 ..
theorem forD_nx {b : MG} {body : MS} {d : D} {ds : List D} {e e1 e2 : DEnv} (h1 : b d e = some e1) (h2 : body e1 = .ok .nx e2) : forD b body (d :: ds) e = forD b body ds e2 := by
  simp only [forD, h1, h2]
theorem words_ok : ∀ (ws : List Str), (∀ w ∈ ws, w ∈ W10 ++ W6) → ∀ {s0 s1 s2 s4 s5 s6 s7 : DSlot} {a b c : Int} {k : Nat}, Good a b c k → k + 2 * ws.length ≤ 900 →
    ∃ a' c' x4 x5 x6 x7 j, Good a' b c' j ∧ forD (bName 4) kWord (ws.map D.str) [s0, s1, s2, .own (dice a b c), s4, s5, s6, s7] = .ok .nx [s0, s1, s2, .own (dice a' b c'), x4, x5, x6, x7]
  | [], _, s0, s1, s2, s4, s5, s6, s7, a, b, c, k, g, _ => ⟨a, c, s4, s5, s6, s7, k, g, rfl⟩
  | w :: ws, hw, s0, s1, s2, s4, s5, s6, s7, a, b, c, k, g, hk => by
    rw [List.length_cons] at hk
    obtain ⟨a1, c1, x5, x6, x7, g1, e1⟩ := word_ok (hw w List.mem_cons_self) (s0 := s0) (s1 := s1) (s2 := s2) (s5 := s5) (s6 := s6) (s7 := s7) g (by omega)
    obtain ⟨a2, c2, y4, y5, y6, y7, j, g2, e2⟩ := words_ok ws (fun z hz => hw z (List.mem_cons_of_mem _ hz)) (s0 := s0) (s1 := s1) (s2 := s2) (s4 := .sh (.str w)) (s5 := x5) (s6 := x6) (s7 := x7) g1 (by omega)
    refine ⟨a2, c2, y4, y5, y6, y7, j, g2, ?_⟩
    rw [List.map_cons, forD_nx (e1 := [s0, s1, s2, .own (dice a b c), .sh (.str w), s5, s6, s7]) rfl e1]
    exact e2
theorem turn_ok (ns : List Int) {s : Int} (h0 : 0 ≤ s) (h1 : s < 1000) {s2 s3 s4 s5 s6 s7 : DSlot} :
    ∃ x3 x4 x5 x6 x7, mSeq (mSet true 3 kDC) (mFor kWords (bName 4) kWord) [.sh (.lst (ns.map D.int)), .sh (.int s), s2, s3, s4, s5, s6, s7] = .ok .nx [.sh (.lst (ns.map D.int)), .sh (.int s), s2, x3, x4, x5, x6, x7] := by
  obtain ⟨a, b, e, g⟩ := dice_ok ns h0 h1
  have ed : kDC [.sh (.lst (ns.map D.int)), .sh (.int s), s2, s3, s4, s5, s6, s7] = .ok (.new (dice a b 0)) [.sh (.lst (ns.map D.int)), .sh (.int s), s2, s3, s4, s5, s6, s7] := by
    show callRes none [.sh (.lst (ns.map D.int)), .sh (.int s), s2, s3, s4, s5, s6, s7] (diceD [.lst (ns.map D.int), .int s]) = _
    rw [e]; rfl
  rw [seq_nx (set_new (ow := true) (i := 3) ed)]
  obtain ⟨a', c', x4, x5, x6, x7, j, g', e'⟩ := words_ok (W10 ++ W6) (fun _ h => h) (s0 := .sh (.lst (ns.map D.int))) (s1 := .sh (.int s)) (s2 := s2) (s4 := s4) (s5 := s5) (s6 := s6) (s7 := s7) g (by decide)
  refine ⟨.own (dice a' b c'), x4, x5, x6, x7, ?_⟩
  show (kWords [.sh (.lst (ns.map D.int)), .sh (.int s), s2, .own (dice a b 0), s4, s5, s6, s7]).bind _ = _
  rw [words]
  exact e'
theorem spots_ok (ns : List Int) : ∀ (n : Nat) (lo : Int), 0 ≤ lo → lo + n ≤ 1000 → ∀ {s1 s2 s3 s4 s5 s6 s7 : DSlot}, ∃ x1 x3 x4 x5 x6 x7,
    forD (bName 1) (mSeq (mSet true 3 kDC) (mFor kWords (bName 4) kWord)) (intsFrom lo n) [.sh (.lst (ns.map D.int)), s1, s2, s3, s4, s5, s6, s7] = .ok .nx [.sh (.lst (ns.map D.int)), x1, s2, x3, x4, x5, x6, x7]
  | 0, lo, _, _, s1, s2, s3, s4, s5, s6, s7 => ⟨s1, s3, s4, s5, s6, s7, rfl⟩
  | n + 1, lo, h0, h1, s1, s2, s3, s4, s5, s6, s7 => by
    obtain ⟨x3, x4, x5, x6, x7, e⟩ := turn_ok ns (s := lo) h0 (by push_cast at h1; omega) (s2 := s2) (s3 := s3) (s4 := s4) (s5 := s5) (s6 := s6) (s7 := s7)
    obtain ⟨y1, y3, y4, y5, y6, y7, e2⟩ := spots_ok ns n (lo + 1) (by omega) (by push_cast at h1; omega) (s1 := .sh (.int lo)) (s2 := s2) (s3 := x3) (s4 := x4) (s5 := x5) (s6 := x6) (s7 := x7)
    refine ⟨y1, y3, y4, y5, y6, y7, ?_⟩
    show forD _ _ (.int lo :: intsFrom (lo + 1) n) _ = _
    rw [forD_nx (e1 := [.sh (.lst (ns.map D.int)), .sh (.int lo), s2, s3, s4, s5, s6, s7]) rfl e]
    exact e2
theorem rng_ok (ns : List Int) {s1 s2 s3 s4 s5 s6 s7 : DSlot} : ∃ n : Nat, n ≤ 6 ∧ kRng [.sh (.lst (ns.map D.int)), s1, s2, s3, s4, s5, s6, s7] = .ok (intsFrom 0 n) [.sh (.lst (ns.map D.int)), s1, s2, s3, s4, s5, s6, s7] := by
  let l : Int := (ns.map D.int).length
  let m : Int := if l < 6 then l else 6
  let j : Int := if m > 1 then m else 1
  have hm : 0 ≤ m ∧ m ≤ 6 := by
    show 0 ≤ (if l < 6 then l else 6) ∧ (if l < 6 then l else 6) ≤ 6
    have : 0 ≤ l := Int.natCast_nonneg _
    split <;> omega
  have hj : 0 ≤ j ∧ j ≤ 6 := by
    show 0 ≤ (if m > 1 then m else 1) ∧ (if m > 1 then m else 1) ≤ 6
    split <;> omega
  refine ⟨j.toNat, by omega, ?_⟩
  have e : kRng [.sh (.lst (ns.map D.int)), s1, s2, s3, s4, s5, s6, s7] = if -(2 ^ 62) ≤ j ∧ j < 2 ^ 62 then .ok (intsFrom 0 j.toNat) [.sh (.lst (ns.map D.int)), s1, s2, s3, s4, s5, s6, s7] else .stuck := rfl
  rw [e, if_pos (by omega)]
theorem yes (ns : List Int) : ∃ out, lawD [.lst (ns.map D.int)] = .ok false (.bl true) out := by
  refine ⟨.non, ?_⟩
  show endD none (m_law (startD none 8 [.lst (ns.map D.int)])) = _
  have es : startD none 8 [.lst (ns.map D.int)] = [.sh (.lst (ns.map D.int)), .no, .no, .no, .no, .no, .no, .no] := by rfl
  rw [es, law_eq]
  obtain ⟨n, hn, er⟩ := rng_ok ns (s1 := .no) (s2 := .no) (s3 := .no) (s4 := .no) (s5 := .no) (s6 := .no) (s7 := .no)
  obtain ⟨x1, x3, x4, x5, x6, x7, ef⟩ := spots_ok ns n 0 (Int.le_refl 0) (by omega) (s1 := .no) (s2 := .no) (s3 := .no) (s4 := .no) (s5 := .no) (s6 := .no) (s7 := .no)
  have e1 : mFor kRng (bName 1) (mSeq (mSet true 3 kDC) (mFor kWords (bName 4) kWord)) [.sh (.lst (ns.map D.int)), .no, .no, .no, .no, .no, .no, .no] = .ok .nx [.sh (.lst (ns.map D.int)), x1, .no, x3, x4, x5, x6, x7] := by
    unfold mFor
    rw [er]
    exact ef
  rw [seq_nx e1]
  obtain ⟨e2, he⟩ := end_ok (.sh (.lst (ns.map D.int))) x1 .no x3 x4 x5 x6 x7
  rw [he]
  rfl
end K01

set_option linter.all false
set_option maxRecDepth 100000
set_option maxHeartbeats 0
namespace K01
open PySem PySem.Spec PyProof.Rows L2 Q
theorem cl_of {K : PySem.W.Frag} {C : Addr} {ms : List Value} (h : (PySem.W.clsIn K C).map (·.mro) = some ms) : (PySem.W.clsIn K C).isSome = true := by
  obtain ⟨cd, e, _⟩ := Option.map_eq_some_iff.mp h
  rw [e]; rfl
theorem pass_q {K : PySem.W.Frag} {C : Addr} {ms : List Value} (hd : PySem.W.hasDictIn K C = true) (h : (PySem.W.clsIn K C).map (·.mro) = some ms) (p : ∀ self : Value, refuseLoop self "__setattr__" ms = pure ()) :
    ∃ cd, PySem.W.clsIn K C = some cd ∧ cd.hasDict = true ∧ ∀ self : Value, refuseLoop self "__setattr__" cd.mro = pure () := by
  obtain ⟨cd, e, e2⟩ := Option.map_eq_some_iff.mp h
  obtain ⟨cd', e', h'⟩ := PySem.W.any_some hd
  rw [e] at e'; cases e'
  exact ⟨cd, e, h', by rw [e2]; exact p⟩
/-- what the top's written part says -/
theorem facts_mk {K : PySem.W.Frag} {h : Heap} {mg : Str → Option Value} (X : K.In h) (G : h.Ns mainGlobals mg) {C_DayError C_InvalidName C_InvalidNet C_InvalidRow C_InvalidTable C_InvalidCourse C_InvalidWay C_InvalidDay C_InvalidDeal C_InvalidOperation C_InvalidCommand C_ParseError C_UnknownName C_InvalidNumber C_TooMany C_Refused C_NothingToUndo I_ParseError cc_ParseError cda_ParseError I_UnknownName cc_UnknownName cda_UnknownName I_InvalidNumber cc_InvalidNumber cda_InvalidNumber I_TooMany cc_TooMany cda_TooMany I_Refused cc_Refused cda_Refused I_NothingToUndo cc_NothingToUndo cda_NothingToUndo : Addr}
        (a_DayError : PySem.W.nsIn K mainGlobals "DayError" = some (some (.ref C_DayError)))
    (a_InvalidName : PySem.W.nsIn K mainGlobals "InvalidName" = some (some (.ref C_InvalidName)))
    (a_InvalidNet : PySem.W.nsIn K mainGlobals "InvalidNet" = some (some (.ref C_InvalidNet)))
    (a_InvalidRow : PySem.W.nsIn K mainGlobals "InvalidRow" = some (some (.ref C_InvalidRow)))
    (a_InvalidTable : PySem.W.nsIn K mainGlobals "InvalidTable" = some (some (.ref C_InvalidTable)))
    (a_InvalidCourse : PySem.W.nsIn K mainGlobals "InvalidCourse" = some (some (.ref C_InvalidCourse)))
    (a_InvalidWay : PySem.W.nsIn K mainGlobals "InvalidWay" = some (some (.ref C_InvalidWay)))
    (a_InvalidDay : PySem.W.nsIn K mainGlobals "InvalidDay" = some (some (.ref C_InvalidDay)))
    (a_InvalidDeal : PySem.W.nsIn K mainGlobals "InvalidDeal" = some (some (.ref C_InvalidDeal)))
    (a_InvalidOperation : PySem.W.nsIn K mainGlobals "InvalidOperation" = some (some (.ref C_InvalidOperation)))
    (a_InvalidCommand : PySem.W.nsIn K mainGlobals "InvalidCommand" = some (some (.ref C_InvalidCommand)))
    (a_ParseError : PySem.W.nsIn K mainGlobals "ParseError" = some (some (.ref C_ParseError)))
    (a_UnknownName : PySem.W.nsIn K mainGlobals "UnknownName" = some (some (.ref C_UnknownName)))
    (a_InvalidNumber : PySem.W.nsIn K mainGlobals "InvalidNumber" = some (some (.ref C_InvalidNumber)))
    (a_TooMany : PySem.W.nsIn K mainGlobals "TooMany" = some (some (.ref C_TooMany)))
    (a_Refused : PySem.W.nsIn K mainGlobals "Refused" = some (some (.ref C_Refused)))
    (a_NothingToUndo : PySem.W.nsIn K mainGlobals "NothingToUndo" = some (some (.ref C_NothingToUndo)))
    (q_DayError : PySem.W.excInitIn K C_DayError [.type "ValueError", .type "Exception", .type "BaseException", .type "object"] "ValueError.__new__" = true)
    (k_DayError : PySem.W.keepIn K (.ref C_DayError) = true)
    (m_DayError : (PySem.W.clsIn K C_DayError).map (·.mro) = some [.ref C_DayError, .type "ValueError", .type "Exception", .type "BaseException", .type "object"])
    (t_DayError : PySem.W.typeIn K (.ref C_DayError) = some (.type "type"))
    (ga_DayError : PySem.W.findIn K (.ref C_DayError) "__getattribute__" = some (some (.builtin "BaseException.__getattribute__")))
    (gg_DayError : PySem.W.findIn K (.ref C_DayError) "__getattr__" = some none)
    (sb_DayError : PySem.W.subIn K (.ref C_DayError) (.type "BaseException") = some true)
    (ca_DayError : PySem.W.findIn K (.ref C_DayError) "__class__" = some (some (.builtin "object.__class__")))
    (mo_DayError : PySem.W.mroIn K C_DayError (.type "object") = some true)
    (i_DayError : PySem.W.findIn K (.ref C_DayError) "__init__" = some (some (.builtin "ValueError.__init__")))
    (s_DayError : PySem.W.findIn K (.ref C_DayError) "__str__" = some (some (.builtin "BaseException.__str__")))
    (q_InvalidName : PySem.W.excInitIn K C_InvalidName [.type "ValueError", .type "Exception", .type "BaseException", .type "object"] "ValueError.__new__" = true)
    (k_InvalidName : PySem.W.keepIn K (.ref C_InvalidName) = true)
    (m_InvalidName : (PySem.W.clsIn K C_InvalidName).map (·.mro) = some [.ref C_InvalidName, .ref C_DayError, .type "ValueError", .type "Exception", .type "BaseException", .type "object"])
    (t_InvalidName : PySem.W.typeIn K (.ref C_InvalidName) = some (.type "type"))
    (ga_InvalidName : PySem.W.findIn K (.ref C_InvalidName) "__getattribute__" = some (some (.builtin "BaseException.__getattribute__")))
    (gg_InvalidName : PySem.W.findIn K (.ref C_InvalidName) "__getattr__" = some none)
    (sb_InvalidName : PySem.W.subIn K (.ref C_InvalidName) (.type "BaseException") = some true)
    (ca_InvalidName : PySem.W.findIn K (.ref C_InvalidName) "__class__" = some (some (.builtin "object.__class__")))
    (mo_InvalidName : PySem.W.mroIn K C_InvalidName (.type "object") = some true)
    (i_InvalidName : PySem.W.findIn K (.ref C_InvalidName) "__init__" = some (some (.builtin "ValueError.__init__")))
    (s_InvalidName : PySem.W.findIn K (.ref C_InvalidName) "__str__" = some (some (.builtin "BaseException.__str__")))
    (q_InvalidNet : PySem.W.excInitIn K C_InvalidNet [.type "ValueError", .type "Exception", .type "BaseException", .type "object"] "ValueError.__new__" = true)
    (k_InvalidNet : PySem.W.keepIn K (.ref C_InvalidNet) = true)
    (m_InvalidNet : (PySem.W.clsIn K C_InvalidNet).map (·.mro) = some [.ref C_InvalidNet, .ref C_DayError, .type "ValueError", .type "Exception", .type "BaseException", .type "object"])
    (t_InvalidNet : PySem.W.typeIn K (.ref C_InvalidNet) = some (.type "type"))
    (ga_InvalidNet : PySem.W.findIn K (.ref C_InvalidNet) "__getattribute__" = some (some (.builtin "BaseException.__getattribute__")))
    (gg_InvalidNet : PySem.W.findIn K (.ref C_InvalidNet) "__getattr__" = some none)
    (sb_InvalidNet : PySem.W.subIn K (.ref C_InvalidNet) (.type "BaseException") = some true)
    (ca_InvalidNet : PySem.W.findIn K (.ref C_InvalidNet) "__class__" = some (some (.builtin "object.__class__")))
    (mo_InvalidNet : PySem.W.mroIn K C_InvalidNet (.type "object") = some true)
    (i_InvalidNet : PySem.W.findIn K (.ref C_InvalidNet) "__init__" = some (some (.builtin "ValueError.__init__")))
    (s_InvalidNet : PySem.W.findIn K (.ref C_InvalidNet) "__str__" = some (some (.builtin "BaseException.__str__")))
    (q_InvalidRow : PySem.W.excInitIn K C_InvalidRow [.type "ValueError", .type "Exception", .type "BaseException", .type "object"] "ValueError.__new__" = true)
    (k_InvalidRow : PySem.W.keepIn K (.ref C_InvalidRow) = true)
    (m_InvalidRow : (PySem.W.clsIn K C_InvalidRow).map (·.mro) = some [.ref C_InvalidRow, .ref C_DayError, .type "ValueError", .type "Exception", .type "BaseException", .type "object"])
    (t_InvalidRow : PySem.W.typeIn K (.ref C_InvalidRow) = some (.type "type"))
    (ga_InvalidRow : PySem.W.findIn K (.ref C_InvalidRow) "__getattribute__" = some (some (.builtin "BaseException.__getattribute__")))
    (gg_InvalidRow : PySem.W.findIn K (.ref C_InvalidRow) "__getattr__" = some none)
    (sb_InvalidRow : PySem.W.subIn K (.ref C_InvalidRow) (.type "BaseException") = some true)
    (ca_InvalidRow : PySem.W.findIn K (.ref C_InvalidRow) "__class__" = some (some (.builtin "object.__class__")))
    (mo_InvalidRow : PySem.W.mroIn K C_InvalidRow (.type "object") = some true)
    (i_InvalidRow : PySem.W.findIn K (.ref C_InvalidRow) "__init__" = some (some (.builtin "ValueError.__init__")))
    (s_InvalidRow : PySem.W.findIn K (.ref C_InvalidRow) "__str__" = some (some (.builtin "BaseException.__str__")))
    (q_InvalidTable : PySem.W.excInitIn K C_InvalidTable [.type "ValueError", .type "Exception", .type "BaseException", .type "object"] "ValueError.__new__" = true)
    (k_InvalidTable : PySem.W.keepIn K (.ref C_InvalidTable) = true)
    (m_InvalidTable : (PySem.W.clsIn K C_InvalidTable).map (·.mro) = some [.ref C_InvalidTable, .ref C_DayError, .type "ValueError", .type "Exception", .type "BaseException", .type "object"])
    (t_InvalidTable : PySem.W.typeIn K (.ref C_InvalidTable) = some (.type "type"))
    (ga_InvalidTable : PySem.W.findIn K (.ref C_InvalidTable) "__getattribute__" = some (some (.builtin "BaseException.__getattribute__")))
    (gg_InvalidTable : PySem.W.findIn K (.ref C_InvalidTable) "__getattr__" = some none)
    (sb_InvalidTable : PySem.W.subIn K (.ref C_InvalidTable) (.type "BaseException") = some true)
    (ca_InvalidTable : PySem.W.findIn K (.ref C_InvalidTable) "__class__" = some (some (.builtin "object.__class__")))
    (mo_InvalidTable : PySem.W.mroIn K C_InvalidTable (.type "object") = some true)
    (i_InvalidTable : PySem.W.findIn K (.ref C_InvalidTable) "__init__" = some (some (.builtin "ValueError.__init__")))
    (s_InvalidTable : PySem.W.findIn K (.ref C_InvalidTable) "__str__" = some (some (.builtin "BaseException.__str__")))
    (q_InvalidCourse : PySem.W.excInitIn K C_InvalidCourse [.type "ValueError", .type "Exception", .type "BaseException", .type "object"] "ValueError.__new__" = true)
    (k_InvalidCourse : PySem.W.keepIn K (.ref C_InvalidCourse) = true)
    (m_InvalidCourse : (PySem.W.clsIn K C_InvalidCourse).map (·.mro) = some [.ref C_InvalidCourse, .ref C_DayError, .type "ValueError", .type "Exception", .type "BaseException", .type "object"])
    (t_InvalidCourse : PySem.W.typeIn K (.ref C_InvalidCourse) = some (.type "type"))
    (ga_InvalidCourse : PySem.W.findIn K (.ref C_InvalidCourse) "__getattribute__" = some (some (.builtin "BaseException.__getattribute__")))
    (gg_InvalidCourse : PySem.W.findIn K (.ref C_InvalidCourse) "__getattr__" = some none)
    (sb_InvalidCourse : PySem.W.subIn K (.ref C_InvalidCourse) (.type "BaseException") = some true)
    (ca_InvalidCourse : PySem.W.findIn K (.ref C_InvalidCourse) "__class__" = some (some (.builtin "object.__class__")))
    (mo_InvalidCourse : PySem.W.mroIn K C_InvalidCourse (.type "object") = some true)
    (i_InvalidCourse : PySem.W.findIn K (.ref C_InvalidCourse) "__init__" = some (some (.builtin "ValueError.__init__")))
    (s_InvalidCourse : PySem.W.findIn K (.ref C_InvalidCourse) "__str__" = some (some (.builtin "BaseException.__str__")))
    (q_InvalidWay : PySem.W.excInitIn K C_InvalidWay [.type "ValueError", .type "Exception", .type "BaseException", .type "object"] "ValueError.__new__" = true)
    (k_InvalidWay : PySem.W.keepIn K (.ref C_InvalidWay) = true)
    (m_InvalidWay : (PySem.W.clsIn K C_InvalidWay).map (·.mro) = some [.ref C_InvalidWay, .ref C_DayError, .type "ValueError", .type "Exception", .type "BaseException", .type "object"])
    (t_InvalidWay : PySem.W.typeIn K (.ref C_InvalidWay) = some (.type "type"))
    (ga_InvalidWay : PySem.W.findIn K (.ref C_InvalidWay) "__getattribute__" = some (some (.builtin "BaseException.__getattribute__")))
    (gg_InvalidWay : PySem.W.findIn K (.ref C_InvalidWay) "__getattr__" = some none)
    (sb_InvalidWay : PySem.W.subIn K (.ref C_InvalidWay) (.type "BaseException") = some true)
    (ca_InvalidWay : PySem.W.findIn K (.ref C_InvalidWay) "__class__" = some (some (.builtin "object.__class__")))
    (mo_InvalidWay : PySem.W.mroIn K C_InvalidWay (.type "object") = some true)
    (i_InvalidWay : PySem.W.findIn K (.ref C_InvalidWay) "__init__" = some (some (.builtin "ValueError.__init__")))
    (s_InvalidWay : PySem.W.findIn K (.ref C_InvalidWay) "__str__" = some (some (.builtin "BaseException.__str__")))
    (q_InvalidDay : PySem.W.excInitIn K C_InvalidDay [.type "ValueError", .type "Exception", .type "BaseException", .type "object"] "ValueError.__new__" = true)
    (k_InvalidDay : PySem.W.keepIn K (.ref C_InvalidDay) = true)
    (m_InvalidDay : (PySem.W.clsIn K C_InvalidDay).map (·.mro) = some [.ref C_InvalidDay, .ref C_DayError, .type "ValueError", .type "Exception", .type "BaseException", .type "object"])
    (t_InvalidDay : PySem.W.typeIn K (.ref C_InvalidDay) = some (.type "type"))
    (ga_InvalidDay : PySem.W.findIn K (.ref C_InvalidDay) "__getattribute__" = some (some (.builtin "BaseException.__getattribute__")))
    (gg_InvalidDay : PySem.W.findIn K (.ref C_InvalidDay) "__getattr__" = some none)
    (sb_InvalidDay : PySem.W.subIn K (.ref C_InvalidDay) (.type "BaseException") = some true)
    (ca_InvalidDay : PySem.W.findIn K (.ref C_InvalidDay) "__class__" = some (some (.builtin "object.__class__")))
    (mo_InvalidDay : PySem.W.mroIn K C_InvalidDay (.type "object") = some true)
    (i_InvalidDay : PySem.W.findIn K (.ref C_InvalidDay) "__init__" = some (some (.builtin "ValueError.__init__")))
    (s_InvalidDay : PySem.W.findIn K (.ref C_InvalidDay) "__str__" = some (some (.builtin "BaseException.__str__")))
    (q_InvalidDeal : PySem.W.excInitIn K C_InvalidDeal [.type "ValueError", .type "Exception", .type "BaseException", .type "object"] "ValueError.__new__" = true)
    (k_InvalidDeal : PySem.W.keepIn K (.ref C_InvalidDeal) = true)
    (m_InvalidDeal : (PySem.W.clsIn K C_InvalidDeal).map (·.mro) = some [.ref C_InvalidDeal, .ref C_DayError, .type "ValueError", .type "Exception", .type "BaseException", .type "object"])
    (t_InvalidDeal : PySem.W.typeIn K (.ref C_InvalidDeal) = some (.type "type"))
    (ga_InvalidDeal : PySem.W.findIn K (.ref C_InvalidDeal) "__getattribute__" = some (some (.builtin "BaseException.__getattribute__")))
    (gg_InvalidDeal : PySem.W.findIn K (.ref C_InvalidDeal) "__getattr__" = some none)
    (sb_InvalidDeal : PySem.W.subIn K (.ref C_InvalidDeal) (.type "BaseException") = some true)
    (ca_InvalidDeal : PySem.W.findIn K (.ref C_InvalidDeal) "__class__" = some (some (.builtin "object.__class__")))
    (mo_InvalidDeal : PySem.W.mroIn K C_InvalidDeal (.type "object") = some true)
    (i_InvalidDeal : PySem.W.findIn K (.ref C_InvalidDeal) "__init__" = some (some (.builtin "ValueError.__init__")))
    (s_InvalidDeal : PySem.W.findIn K (.ref C_InvalidDeal) "__str__" = some (some (.builtin "BaseException.__str__")))
    (q_InvalidOperation : PySem.W.excInitIn K C_InvalidOperation [.type "ValueError", .type "Exception", .type "BaseException", .type "object"] "ValueError.__new__" = true)
    (k_InvalidOperation : PySem.W.keepIn K (.ref C_InvalidOperation) = true)
    (m_InvalidOperation : (PySem.W.clsIn K C_InvalidOperation).map (·.mro) = some [.ref C_InvalidOperation, .ref C_DayError, .type "ValueError", .type "Exception", .type "BaseException", .type "object"])
    (t_InvalidOperation : PySem.W.typeIn K (.ref C_InvalidOperation) = some (.type "type"))
    (ga_InvalidOperation : PySem.W.findIn K (.ref C_InvalidOperation) "__getattribute__" = some (some (.builtin "BaseException.__getattribute__")))
    (gg_InvalidOperation : PySem.W.findIn K (.ref C_InvalidOperation) "__getattr__" = some none)
    (sb_InvalidOperation : PySem.W.subIn K (.ref C_InvalidOperation) (.type "BaseException") = some true)
    (ca_InvalidOperation : PySem.W.findIn K (.ref C_InvalidOperation) "__class__" = some (some (.builtin "object.__class__")))
    (mo_InvalidOperation : PySem.W.mroIn K C_InvalidOperation (.type "object") = some true)
    (i_InvalidOperation : PySem.W.findIn K (.ref C_InvalidOperation) "__init__" = some (some (.builtin "ValueError.__init__")))
    (s_InvalidOperation : PySem.W.findIn K (.ref C_InvalidOperation) "__str__" = some (some (.builtin "BaseException.__str__")))
    (q_InvalidCommand : PySem.W.excInitIn K C_InvalidCommand [.type "ValueError", .type "Exception", .type "BaseException", .type "object"] "ValueError.__new__" = true)
    (k_InvalidCommand : PySem.W.keepIn K (.ref C_InvalidCommand) = true)
    (m_InvalidCommand : (PySem.W.clsIn K C_InvalidCommand).map (·.mro) = some [.ref C_InvalidCommand, .ref C_DayError, .type "ValueError", .type "Exception", .type "BaseException", .type "object"])
    (t_InvalidCommand : PySem.W.typeIn K (.ref C_InvalidCommand) = some (.type "type"))
    (ga_InvalidCommand : PySem.W.findIn K (.ref C_InvalidCommand) "__getattribute__" = some (some (.builtin "BaseException.__getattribute__")))
    (gg_InvalidCommand : PySem.W.findIn K (.ref C_InvalidCommand) "__getattr__" = some none)
    (sb_InvalidCommand : PySem.W.subIn K (.ref C_InvalidCommand) (.type "BaseException") = some true)
    (ca_InvalidCommand : PySem.W.findIn K (.ref C_InvalidCommand) "__class__" = some (some (.builtin "object.__class__")))
    (mo_InvalidCommand : PySem.W.mroIn K C_InvalidCommand (.type "object") = some true)
    (i_InvalidCommand : PySem.W.findIn K (.ref C_InvalidCommand) "__init__" = some (some (.builtin "ValueError.__init__")))
    (s_InvalidCommand : PySem.W.findIn K (.ref C_InvalidCommand) "__str__" = some (some (.builtin "BaseException.__str__")))
    (q_ParseError : PySem.W.excInitIn K C_ParseError [.type "ValueError", .type "Exception", .type "BaseException", .type "object"] "ValueError.__new__" = true)
    (k_ParseError : PySem.W.keepIn K (.ref C_ParseError) = true)
    (m_ParseError : (PySem.W.clsIn K C_ParseError).map (·.mro) = some [.ref C_ParseError, .ref C_DayError, .type "ValueError", .type "Exception", .type "BaseException", .type "object"])
    (t_ParseError : PySem.W.typeIn K (.ref C_ParseError) = some (.type "type"))
    (ga_ParseError : PySem.W.findIn K (.ref C_ParseError) "__getattribute__" = some (some (.builtin "BaseException.__getattribute__")))
    (gg_ParseError : PySem.W.findIn K (.ref C_ParseError) "__getattr__" = some none)
    (sb_ParseError : PySem.W.subIn K (.ref C_ParseError) (.type "BaseException") = some true)
    (ca_ParseError : PySem.W.findIn K (.ref C_ParseError) "__class__" = some (some (.builtin "object.__class__")))
    (mo_ParseError : PySem.W.mroIn K C_ParseError (.type "object") = some true)
    {oc_ParseError kV_ParseError doc_ParseError pm_ParseError ct_ParseError xc_ParseError xl_ParseError : Value}
    {od_ParseError an_ParseError xd_ParseError ld_ParseError : Option Addr}
    {ol_ParseError xs_ParseError ll_ParseError : Array (Option Value)}
    {xv_ParseError : Array Value}
    {xf_ParseError : Str}
    {xt_ParseError : Tok}
    {cd_ParseError : ClassData}
    (i_ParseError : PySem.W.findIn K (.ref C_ParseError) "__init__" = some (some (.ref I_ParseError)))
    (l_ParseError : K.lookup I_ParseError = some ⟨oc_ParseError, od_ParseError, .func (PySem.W.ksFn "__init__" "ParseError.__init__" (defArgs (inClass (top 12) 0)) (defBody (inClass (top 12) 0)) (defScope (inClass (top 12) 0)) .none kV_ParseError doc_ParseError pm_ParseError an_ParseError (.ref cda_ParseError) ct_ParseError cc_ParseError), ol_ParseError⟩)
    (cd1_ParseError : PySem.W.codeIn K (.ref cda_ParseError) "ParseError.__init__" = true)
    (ti_ParseError : PySem.W.typeIn K (.ref I_ParseError) = some (.type "function"))
    (x_ParseError : K.lookup cda_ParseError = some ⟨xc_ParseError, xd_ParseError, .fields xv_ParseError, xs_ParseError⟩)
    (x2_ParseError : xv_ParseError[2]? = some (.str xf_ParseError xt_ParseError))
    (x3_ParseError : ((PW.main.file : Str) == xf_ParseError) = true)
    (ce_ParseError : K.lookup cc_ParseError = some ⟨xl_ParseError, ld_ParseError, .cell (some (.ref C_ParseError)), ll_ParseError⟩)
    (sm_ParseError : PySem.W.ks_superIn K C_ParseError C_ParseError "__init__" = some (some (.builtin "ValueError.__init__")))
    (sB_ParseError : PySem.W.subIn K (.ref C_ParseError) (.type "ValueError") = some true)
    (sa_ParseError : PySem.W.findIn K (.ref C_ParseError) "__setattr__" = some (some (.builtin "object.__setattr__")))
    (hd_ParseError : PySem.W.hasDictIn K C_ParseError = true)
    (ms_ParseError : PySem.W.mroIn K C_ParseError (.ref C_ParseError) = some true)
    (no_ParseError : PySem.W.findIn K (.ref C_ParseError) "line" = some none)
    (q_UnknownName : PySem.W.excInitIn K C_UnknownName keyTail "LookupError.__new__" = true)
    (k_UnknownName : PySem.W.keepIn K (.ref C_UnknownName) = true)
    (m_UnknownName : (PySem.W.clsIn K C_UnknownName).map (·.mro) = some [.ref C_UnknownName, .type "KeyError", .type "LookupError", .type "Exception", .type "BaseException", .type "object"])
    (t_UnknownName : PySem.W.typeIn K (.ref C_UnknownName) = some (.type "type"))
    (ga_UnknownName : PySem.W.findIn K (.ref C_UnknownName) "__getattribute__" = some (some (.builtin "BaseException.__getattribute__")))
    (gg_UnknownName : PySem.W.findIn K (.ref C_UnknownName) "__getattr__" = some none)
    (sb_UnknownName : PySem.W.subIn K (.ref C_UnknownName) (.type "BaseException") = some true)
    (ca_UnknownName : PySem.W.findIn K (.ref C_UnknownName) "__class__" = some (some (.builtin "object.__class__")))
    (mo_UnknownName : PySem.W.mroIn K C_UnknownName (.type "object") = some true)
    {oc_UnknownName kV_UnknownName doc_UnknownName pm_UnknownName ct_UnknownName xc_UnknownName xl_UnknownName : Value}
    {od_UnknownName an_UnknownName xd_UnknownName ld_UnknownName : Option Addr}
    {ol_UnknownName xs_UnknownName ll_UnknownName : Array (Option Value)}
    {xv_UnknownName : Array Value}
    {xf_UnknownName : Str}
    {xt_UnknownName : Tok}
    {cd_UnknownName : ClassData}
    (i_UnknownName : PySem.W.findIn K (.ref C_UnknownName) "__init__" = some (some (.ref I_UnknownName)))
    (l_UnknownName : K.lookup I_UnknownName = some ⟨oc_UnknownName, od_UnknownName, .func (PySem.W.ksFn "__init__" "UnknownName.__init__" (defArgs (inClass (top 13) 0)) (defBody (inClass (top 13) 0)) (defScope (inClass (top 13) 0)) .none kV_UnknownName doc_UnknownName pm_UnknownName an_UnknownName (.ref cda_UnknownName) ct_UnknownName cc_UnknownName), ol_UnknownName⟩)
    (cd1_UnknownName : PySem.W.codeIn K (.ref cda_UnknownName) "UnknownName.__init__" = true)
    (ti_UnknownName : PySem.W.typeIn K (.ref I_UnknownName) = some (.type "function"))
    (x_UnknownName : K.lookup cda_UnknownName = some ⟨xc_UnknownName, xd_UnknownName, .fields xv_UnknownName, xs_UnknownName⟩)
    (x2_UnknownName : xv_UnknownName[2]? = some (.str xf_UnknownName xt_UnknownName))
    (x3_UnknownName : ((PW.main.file : Str) == xf_UnknownName) = true)
    (ce_UnknownName : K.lookup cc_UnknownName = some ⟨xl_UnknownName, ld_UnknownName, .cell (some (.ref C_UnknownName)), ll_UnknownName⟩)
    (sm_UnknownName : PySem.W.ks_superIn K C_UnknownName C_UnknownName "__init__" = some (some (.builtin "KeyError.__init__")))
    (sB_UnknownName : PySem.W.subIn K (.ref C_UnknownName) (.type "KeyError") = some true)
    (sa_UnknownName : PySem.W.findIn K (.ref C_UnknownName) "__setattr__" = some (some (.builtin "object.__setattr__")))
    (hd_UnknownName : PySem.W.hasDictIn K C_UnknownName = true)
    (ms_UnknownName : PySem.W.mroIn K C_UnknownName (.ref C_UnknownName) = some true)
    (no_UnknownName : PySem.W.findIn K (.ref C_UnknownName) "wanted" = some none)
    (q_InvalidNumber : PySem.W.excInitIn K C_InvalidNumber [.type "RuntimeError", .type "Exception", .type "BaseException", .type "object"] "RuntimeError.__new__" = true)
    (k_InvalidNumber : PySem.W.keepIn K (.ref C_InvalidNumber) = true)
    (m_InvalidNumber : (PySem.W.clsIn K C_InvalidNumber).map (·.mro) = some [.ref C_InvalidNumber, .type "RuntimeError", .type "Exception", .type "BaseException", .type "object"])
    (t_InvalidNumber : PySem.W.typeIn K (.ref C_InvalidNumber) = some (.type "type"))
    (ga_InvalidNumber : PySem.W.findIn K (.ref C_InvalidNumber) "__getattribute__" = some (some (.builtin "BaseException.__getattribute__")))
    (gg_InvalidNumber : PySem.W.findIn K (.ref C_InvalidNumber) "__getattr__" = some none)
    (sb_InvalidNumber : PySem.W.subIn K (.ref C_InvalidNumber) (.type "BaseException") = some true)
    (ca_InvalidNumber : PySem.W.findIn K (.ref C_InvalidNumber) "__class__" = some (some (.builtin "object.__class__")))
    (mo_InvalidNumber : PySem.W.mroIn K C_InvalidNumber (.type "object") = some true)
    {oc_InvalidNumber kV_InvalidNumber doc_InvalidNumber pm_InvalidNumber ct_InvalidNumber xc_InvalidNumber xl_InvalidNumber : Value}
    {od_InvalidNumber an_InvalidNumber xd_InvalidNumber ld_InvalidNumber : Option Addr}
    {ol_InvalidNumber xs_InvalidNumber ll_InvalidNumber : Array (Option Value)}
    {xv_InvalidNumber : Array Value}
    {xf_InvalidNumber : Str}
    {xt_InvalidNumber : Tok}
    {cd_InvalidNumber : ClassData}
    (i_InvalidNumber : PySem.W.findIn K (.ref C_InvalidNumber) "__init__" = some (some (.ref I_InvalidNumber)))
    (l_InvalidNumber : K.lookup I_InvalidNumber = some ⟨oc_InvalidNumber, od_InvalidNumber, .func (PySem.W.ksFn "__init__" "InvalidNumber.__init__" (defArgs (inClass (top 14) 0)) (defBody (inClass (top 14) 0)) (defScope (inClass (top 14) 0)) .none kV_InvalidNumber doc_InvalidNumber pm_InvalidNumber an_InvalidNumber (.ref cda_InvalidNumber) ct_InvalidNumber cc_InvalidNumber), ol_InvalidNumber⟩)
    (cd1_InvalidNumber : PySem.W.codeIn K (.ref cda_InvalidNumber) "InvalidNumber.__init__" = true)
    (ti_InvalidNumber : PySem.W.typeIn K (.ref I_InvalidNumber) = some (.type "function"))
    (x_InvalidNumber : K.lookup cda_InvalidNumber = some ⟨xc_InvalidNumber, xd_InvalidNumber, .fields xv_InvalidNumber, xs_InvalidNumber⟩)
    (x2_InvalidNumber : xv_InvalidNumber[2]? = some (.str xf_InvalidNumber xt_InvalidNumber))
    (x3_InvalidNumber : ((PW.main.file : Str) == xf_InvalidNumber) = true)
    (ce_InvalidNumber : K.lookup cc_InvalidNumber = some ⟨xl_InvalidNumber, ld_InvalidNumber, .cell (some (.ref C_InvalidNumber)), ll_InvalidNumber⟩)
    (sm_InvalidNumber : PySem.W.ks_superIn K C_InvalidNumber C_InvalidNumber "__init__" = some (some (.builtin "RuntimeError.__init__")))
    (sB_InvalidNumber : PySem.W.subIn K (.ref C_InvalidNumber) (.type "RuntimeError") = some true)
    (sa_InvalidNumber : PySem.W.findIn K (.ref C_InvalidNumber) "__setattr__" = some (some (.builtin "object.__setattr__")))
    (hd_InvalidNumber : PySem.W.hasDictIn K C_InvalidNumber = true)
    (ms_InvalidNumber : PySem.W.mroIn K C_InvalidNumber (.ref C_InvalidNumber) = some true)
    (no_InvalidNumber : PySem.W.findIn K (.ref C_InvalidNumber) "given" = some none)
    (q_TooMany : PySem.W.excInitIn K C_TooMany [.type "OverflowError", .type "ArithmeticError", .type "Exception", .type "BaseException", .type "object"] "OverflowError.__new__" = true)
    (k_TooMany : PySem.W.keepIn K (.ref C_TooMany) = true)
    (m_TooMany : (PySem.W.clsIn K C_TooMany).map (·.mro) = some [.ref C_TooMany, .type "OverflowError", .type "ArithmeticError", .type "Exception", .type "BaseException", .type "object"])
    (t_TooMany : PySem.W.typeIn K (.ref C_TooMany) = some (.type "type"))
    (ga_TooMany : PySem.W.findIn K (.ref C_TooMany) "__getattribute__" = some (some (.builtin "BaseException.__getattribute__")))
    (gg_TooMany : PySem.W.findIn K (.ref C_TooMany) "__getattr__" = some none)
    (sb_TooMany : PySem.W.subIn K (.ref C_TooMany) (.type "BaseException") = some true)
    (ca_TooMany : PySem.W.findIn K (.ref C_TooMany) "__class__" = some (some (.builtin "object.__class__")))
    (mo_TooMany : PySem.W.mroIn K C_TooMany (.type "object") = some true)
    {oc_TooMany kV_TooMany doc_TooMany pm_TooMany ct_TooMany xc_TooMany xl_TooMany : Value}
    {od_TooMany an_TooMany xd_TooMany ld_TooMany : Option Addr}
    {ol_TooMany xs_TooMany ll_TooMany : Array (Option Value)}
    {xv_TooMany : Array Value}
    {xf_TooMany : Str}
    {xt_TooMany : Tok}
    {cd_TooMany : ClassData}
    (i_TooMany : PySem.W.findIn K (.ref C_TooMany) "__init__" = some (some (.ref I_TooMany)))
    (l_TooMany : K.lookup I_TooMany = some ⟨oc_TooMany, od_TooMany, .func (PySem.W.ksFn "__init__" "TooMany.__init__" (defArgs (inClass (top 15) 0)) (defBody (inClass (top 15) 0)) (defScope (inClass (top 15) 0)) .none kV_TooMany doc_TooMany pm_TooMany an_TooMany (.ref cda_TooMany) ct_TooMany cc_TooMany), ol_TooMany⟩)
    (cd1_TooMany : PySem.W.codeIn K (.ref cda_TooMany) "TooMany.__init__" = true)
    (ti_TooMany : PySem.W.typeIn K (.ref I_TooMany) = some (.type "function"))
    (x_TooMany : K.lookup cda_TooMany = some ⟨xc_TooMany, xd_TooMany, .fields xv_TooMany, xs_TooMany⟩)
    (x2_TooMany : xv_TooMany[2]? = some (.str xf_TooMany xt_TooMany))
    (x3_TooMany : ((PW.main.file : Str) == xf_TooMany) = true)
    (ce_TooMany : K.lookup cc_TooMany = some ⟨xl_TooMany, ld_TooMany, .cell (some (.ref C_TooMany)), ll_TooMany⟩)
    (sm_TooMany : PySem.W.ks_superIn K C_TooMany C_TooMany "__init__" = some (some (.builtin "OverflowError.__init__")))
    (sB_TooMany : PySem.W.subIn K (.ref C_TooMany) (.type "OverflowError") = some true)
    (sa_TooMany : PySem.W.findIn K (.ref C_TooMany) "__setattr__" = some (some (.builtin "object.__setattr__")))
    (hd_TooMany : PySem.W.hasDictIn K C_TooMany = true)
    (ms_TooMany : PySem.W.mroIn K C_TooMany (.ref C_TooMany) = some true)
    (no_TooMany : PySem.W.findIn K (.ref C_TooMany) "limit" = some none)
    (q_Refused : PySem.W.excInitIn K C_Refused [.type "ArithmeticError", .type "Exception", .type "BaseException", .type "object"] "ArithmeticError.__new__" = true)
    (k_Refused : PySem.W.keepIn K (.ref C_Refused) = true)
    (m_Refused : (PySem.W.clsIn K C_Refused).map (·.mro) = some [.ref C_Refused, .type "ArithmeticError", .type "Exception", .type "BaseException", .type "object"])
    (t_Refused : PySem.W.typeIn K (.ref C_Refused) = some (.type "type"))
    (ga_Refused : PySem.W.findIn K (.ref C_Refused) "__getattribute__" = some (some (.builtin "BaseException.__getattribute__")))
    (gg_Refused : PySem.W.findIn K (.ref C_Refused) "__getattr__" = some none)
    (sb_Refused : PySem.W.subIn K (.ref C_Refused) (.type "BaseException") = some true)
    (ca_Refused : PySem.W.findIn K (.ref C_Refused) "__class__" = some (some (.builtin "object.__class__")))
    (mo_Refused : PySem.W.mroIn K C_Refused (.type "object") = some true)
    {oc_Refused kV_Refused doc_Refused pm_Refused ct_Refused xc_Refused xl_Refused : Value}
    {od_Refused an_Refused xd_Refused ld_Refused : Option Addr}
    {ol_Refused xs_Refused ll_Refused : Array (Option Value)}
    {xv_Refused : Array Value}
    {xf_Refused : Str}
    {xt_Refused : Tok}
    {cd_Refused : ClassData}
    (i_Refused : PySem.W.findIn K (.ref C_Refused) "__init__" = some (some (.ref I_Refused)))
    (l_Refused : K.lookup I_Refused = some ⟨oc_Refused, od_Refused, .func (PySem.W.ksFn "__init__" "Refused.__init__" (defArgs (inClass (top 16) 0)) (defBody (inClass (top 16) 0)) (defScope (inClass (top 16) 0)) .none kV_Refused doc_Refused pm_Refused an_Refused (.ref cda_Refused) ct_Refused cc_Refused), ol_Refused⟩)
    (cd1_Refused : PySem.W.codeIn K (.ref cda_Refused) "Refused.__init__" = true)
    (ti_Refused : PySem.W.typeIn K (.ref I_Refused) = some (.type "function"))
    (x_Refused : K.lookup cda_Refused = some ⟨xc_Refused, xd_Refused, .fields xv_Refused, xs_Refused⟩)
    (x2_Refused : xv_Refused[2]? = some (.str xf_Refused xt_Refused))
    (x3_Refused : ((PW.main.file : Str) == xf_Refused) = true)
    (ce_Refused : K.lookup cc_Refused = some ⟨xl_Refused, ld_Refused, .cell (some (.ref C_Refused)), ll_Refused⟩)
    (sm_Refused : PySem.W.ks_superIn K C_Refused C_Refused "__init__" = some (some (.builtin "ArithmeticError.__init__")))
    (sB_Refused : PySem.W.subIn K (.ref C_Refused) (.type "ArithmeticError") = some true)
    (sa_Refused : PySem.W.findIn K (.ref C_Refused) "__setattr__" = some (some (.builtin "object.__setattr__")))
    (hd_Refused : PySem.W.hasDictIn K C_Refused = true)
    (ms_Refused : PySem.W.mroIn K C_Refused (.ref C_Refused) = some true)
    (no_Refused : PySem.W.findIn K (.ref C_Refused) "reason" = some none)
    (q_NothingToUndo : PySem.W.excInitIn K C_NothingToUndo [.type "IndexError", .type "LookupError", .type "Exception", .type "BaseException", .type "object"] "IndexError.__new__" = true)
    (k_NothingToUndo : PySem.W.keepIn K (.ref C_NothingToUndo) = true)
    (m_NothingToUndo : (PySem.W.clsIn K C_NothingToUndo).map (·.mro) = some [.ref C_NothingToUndo, .type "IndexError", .type "LookupError", .type "Exception", .type "BaseException", .type "object"])
    (t_NothingToUndo : PySem.W.typeIn K (.ref C_NothingToUndo) = some (.type "type"))
    (ga_NothingToUndo : PySem.W.findIn K (.ref C_NothingToUndo) "__getattribute__" = some (some (.builtin "BaseException.__getattribute__")))
    (gg_NothingToUndo : PySem.W.findIn K (.ref C_NothingToUndo) "__getattr__" = some none)
    (sb_NothingToUndo : PySem.W.subIn K (.ref C_NothingToUndo) (.type "BaseException") = some true)
    (ca_NothingToUndo : PySem.W.findIn K (.ref C_NothingToUndo) "__class__" = some (some (.builtin "object.__class__")))
    (mo_NothingToUndo : PySem.W.mroIn K C_NothingToUndo (.type "object") = some true)
    {oc_NothingToUndo kV_NothingToUndo doc_NothingToUndo pm_NothingToUndo ct_NothingToUndo xc_NothingToUndo xl_NothingToUndo : Value}
    {od_NothingToUndo an_NothingToUndo xd_NothingToUndo ld_NothingToUndo : Option Addr}
    {ol_NothingToUndo xs_NothingToUndo ll_NothingToUndo : Array (Option Value)}
    {xv_NothingToUndo : Array Value}
    {xf_NothingToUndo : Str}
    {xt_NothingToUndo : Tok}
    {cd_NothingToUndo : ClassData}
    (i_NothingToUndo : PySem.W.findIn K (.ref C_NothingToUndo) "__init__" = some (some (.ref I_NothingToUndo)))
    (l_NothingToUndo : K.lookup I_NothingToUndo = some ⟨oc_NothingToUndo, od_NothingToUndo, .func (PySem.W.ksFn "__init__" "NothingToUndo.__init__" (defArgs (inClass (top 17) 0)) (defBody (inClass (top 17) 0)) (defScope (inClass (top 17) 0)) .none kV_NothingToUndo doc_NothingToUndo pm_NothingToUndo an_NothingToUndo (.ref cda_NothingToUndo) ct_NothingToUndo cc_NothingToUndo), ol_NothingToUndo⟩)
    (cd1_NothingToUndo : PySem.W.codeIn K (.ref cda_NothingToUndo) "NothingToUndo.__init__" = true)
    (ti_NothingToUndo : PySem.W.typeIn K (.ref I_NothingToUndo) = some (.type "function"))
    (x_NothingToUndo : K.lookup cda_NothingToUndo = some ⟨xc_NothingToUndo, xd_NothingToUndo, .fields xv_NothingToUndo, xs_NothingToUndo⟩)
    (x2_NothingToUndo : xv_NothingToUndo[2]? = some (.str xf_NothingToUndo xt_NothingToUndo))
    (x3_NothingToUndo : ((PW.main.file : Str) == xf_NothingToUndo) = true)
    (ce_NothingToUndo : K.lookup cc_NothingToUndo = some ⟨xl_NothingToUndo, ld_NothingToUndo, .cell (some (.ref C_NothingToUndo)), ll_NothingToUndo⟩)
    (sm_NothingToUndo : PySem.W.ks_superIn K C_NothingToUndo C_NothingToUndo "__init__" = some (some (.builtin "IndexError.__init__")))
    (sB_NothingToUndo : PySem.W.subIn K (.ref C_NothingToUndo) (.type "IndexError") = some true)
    (sa_NothingToUndo : PySem.W.findIn K (.ref C_NothingToUndo) "__setattr__" = some (some (.builtin "object.__setattr__")))
    (hd_NothingToUndo : PySem.W.hasDictIn K C_NothingToUndo = true)
    (ms_NothingToUndo : PySem.W.mroIn K C_NothingToUndo (.ref C_NothingToUndo) = some true)
    (no_NothingToUndo : PySem.W.findIn K (.ref C_NothingToUndo) "wanted" = some none)
    (hsp : PySem.W.specialIn K (.builtin "object.__class__") "__get__" = some (some (.builtin "getset_descriptor.__get__")))
    (htk : PySem.W.takesIn K (.builtin "object.__class__") = some true)
    (hts : PySem.W.nsIn K cStatics "thirdparty.any" = some none)
    (htop : (PW.main.scope.names.lookup ("super" : Str)).isSome = false)
    (b_ArithmeticError : PySem.W.nsIn K mainGlobals "ArithmeticError" = some none)
    (b_IndexError : PySem.W.nsIn K mainGlobals "IndexError" = some none)
    (b_KeyError : PySem.W.nsIn K mainGlobals "KeyError" = some none)
    (b_LookupError : PySem.W.nsIn K mainGlobals "LookupError" = some none)
    (b_OverflowError : PySem.W.nsIn K mainGlobals "OverflowError" = some none)
    (b_RuntimeError : PySem.W.nsIn K mainGlobals "RuntimeError" = some none)
    (b_TypeError : PySem.W.nsIn K mainGlobals "TypeError" = some none)
    (b_ValueError : PySem.W.nsIn K mainGlobals "ValueError" = some none)
    (b_ZeroDivisionError : PySem.W.nsIn K mainGlobals "ZeroDivisionError" = some none)
    (b_abs : PySem.W.nsIn K mainGlobals "abs" = some none)
    (b_int : PySem.W.nsIn K mainGlobals "int" = some none)
    (b_isinstance : PySem.W.nsIn K mainGlobals "isinstance" = some none)
    (b_len : PySem.W.nsIn K mainGlobals "len" = some none)
    (b_max : PySem.W.nsIn K mainGlobals "max" = some none)
    (b_min : PySem.W.nsIn K mainGlobals "min" = some none)
    (b_range : PySem.W.nsIn K mainGlobals "range" = some none)
    (b_repr : PySem.W.nsIn K mainGlobals "repr" = some none)
    (b_str : PySem.W.nsIn K mainGlobals "str" = some none)
    (b_super : PySem.W.nsIn K mainGlobals "super" = some none)
    {f__law_dice : Addr}
    {oc__law_dice kV__law_dice dc__law_dice pm__law_dice cd__law_dice ct__law_dice : Value}
    {od__law_dice an__law_dice : Option Addr}
    {sl__law_dice : Array (Option Value)}
    (a__law_dice : PySem.W.nsIn K mainGlobals "_law_dice" = some (some (.ref f__law_dice)))
    (l__law_dice : K.lookup f__law_dice = some ⟨oc__law_dice, od__law_dice, .func (PySem.W.fnOf "_law_dice" "_law_dice" (defArgs (top 19)) (defBody (top 19)) (defScope (top 19)) .none kV__law_dice dc__law_dice pm__law_dice an__law_dice cd__law_dice ct__law_dice), sl__law_dice⟩)
    (c__law_dice : PySem.W.codeIn K cd__law_dice "_law_dice" = true)
    (k__law_dice : PySem.W.keepIn K (.ref f__law_dice) = true)
    {f__law_roll : Addr}
    {oc__law_roll kV__law_roll dc__law_roll pm__law_roll cd__law_roll ct__law_roll : Value}
    {od__law_roll an__law_roll : Option Addr}
    {sl__law_roll : Array (Option Value)}
    (a__law_roll : PySem.W.nsIn K mainGlobals "_law_roll" = some (some (.ref f__law_roll)))
    (l__law_roll : K.lookup f__law_roll = some ⟨oc__law_roll, od__law_roll, .func (PySem.W.fnOf "_law_roll" "_law_roll" (defArgs (top 20)) (defBody (top 20)) (defScope (top 20)) .none kV__law_roll dc__law_roll pm__law_roll an__law_roll cd__law_roll ct__law_roll), sl__law_roll⟩)
    (c__law_roll : PySem.W.codeIn K cd__law_roll "_law_roll" = true)
    (k__law_roll : PySem.W.keepIn K (.ref f__law_roll) = true)
    {f__law_pick : Addr}
    {oc__law_pick kV__law_pick dc__law_pick pm__law_pick cd__law_pick ct__law_pick : Value}
    {od__law_pick an__law_pick : Option Addr}
    {sl__law_pick : Array (Option Value)}
    (a__law_pick : PySem.W.nsIn K mainGlobals "_law_pick" = some (some (.ref f__law_pick)))
    (l__law_pick : K.lookup f__law_pick = some ⟨oc__law_pick, od__law_pick, .func (PySem.W.fnOf "_law_pick" "_law_pick" (defArgs (top 21)) (defBody (top 21)) (defScope (top 21)) .none kV__law_pick dc__law_pick pm__law_pick an__law_pick cd__law_pick ct__law_pick), sl__law_pick⟩)
    (c__law_pick : PySem.W.codeIn K cd__law_pick "_law_pick" = true)
    (k__law_pick : PySem.W.keepIn K (.ref f__law_pick) = true)
    {f__law_made : Addr}
    {oc__law_made kV__law_made dc__law_made pm__law_made cd__law_made ct__law_made : Value}
    {od__law_made an__law_made : Option Addr}
    {sl__law_made : Array (Option Value)}
    (a__law_made : PySem.W.nsIn K mainGlobals "_law_made" = some (some (.ref f__law_made)))
    (l__law_made : K.lookup f__law_made = some ⟨oc__law_made, od__law_made, .func (PySem.W.fnOf "_law_made" "_law_made" (defArgs (top 22)) (defBody (top 22)) (defScope (top 22)) .none kV__law_made dc__law_made pm__law_made an__law_made cd__law_made ct__law_made), sl__law_made⟩)
    (c__law_made : PySem.W.codeIn K cd__law_made "_law_made" = true)
    (k__law_made : PySem.W.keepIn K (.ref f__law_made) = true)
    {f__law_kept : Addr}
    {oc__law_kept kV__law_kept dc__law_kept pm__law_kept cd__law_kept ct__law_kept : Value}
    {od__law_kept an__law_kept : Option Addr}
    {sl__law_kept : Array (Option Value)}
    (a__law_kept : PySem.W.nsIn K mainGlobals "_law_kept" = some (some (.ref f__law_kept)))
    (l__law_kept : K.lookup f__law_kept = some ⟨oc__law_kept, od__law_kept, .func (PySem.W.fnOf "_law_kept" "_law_kept" (defArgs (top 23)) (defBody (top 23)) (defScope (top 23)) .none kV__law_kept dc__law_kept pm__law_kept an__law_kept cd__law_kept ct__law_kept), sl__law_kept⟩)
    (c__law_kept : PySem.W.codeIn K cd__law_kept "_law_kept" = true)
    (k__law_kept : PySem.W.keepIn K (.ref f__law_kept) = true)
    {f__law_kinds : Addr}
    {oc__law_kinds kV__law_kinds dc__law_kinds pm__law_kinds cd__law_kinds ct__law_kinds : Value}
    {od__law_kinds an__law_kinds : Option Addr}
    {sl__law_kinds : Array (Option Value)}
    (a__law_kinds : PySem.W.nsIn K mainGlobals "_law_kinds" = some (some (.ref f__law_kinds)))
    (l__law_kinds : K.lookup f__law_kinds = some ⟨oc__law_kinds, od__law_kinds, .func (PySem.W.fnOf "_law_kinds" "_law_kinds" (defArgs (top 24)) (defBody (top 24)) (defScope (top 24)) .none kV__law_kinds dc__law_kinds pm__law_kinds an__law_kinds cd__law_kinds ct__law_kinds), sl__law_kinds⟩)
    (c__law_kinds : PySem.W.codeIn K cd__law_kinds "_law_kinds" = true)
    (k__law_kinds : PySem.W.keepIn K (.ref f__law_kinds) = true)
    {f__law_due : Addr}
    {oc__law_due kV__law_due dc__law_due pm__law_due cd__law_due ct__law_due : Value}
    {od__law_due an__law_due : Option Addr}
    {sl__law_due : Array (Option Value)}
    (a__law_due : PySem.W.nsIn K mainGlobals "_law_due" = some (some (.ref f__law_due)))
    (l__law_due : K.lookup f__law_due = some ⟨oc__law_due, od__law_due, .func (PySem.W.fnOf "_law_due" "_law_due" (defArgs (top 25)) (defBody (top 25)) (defScope (top 25)) .none kV__law_due dc__law_due pm__law_due an__law_due cd__law_due ct__law_due), sl__law_due⟩)
    (c__law_due : PySem.W.codeIn K cd__law_due "_law_due" = true)
    (k__law_due : PySem.W.keepIn K (.ref f__law_due) = true)
    {f__law_words : Addr}
    {oc__law_words kV__law_words dc__law_words pm__law_words cd__law_words ct__law_words : Value}
    {od__law_words an__law_words : Option Addr}
    {sl__law_words : Array (Option Value)}
    (a__law_words : PySem.W.nsIn K mainGlobals "_law_words" = some (some (.ref f__law_words)))
    (l__law_words : K.lookup f__law_words = some ⟨oc__law_words, od__law_words, .func (PySem.W.fnOf "_law_words" "_law_words" (defArgs (top 26)) (defBody (top 26)) (defScope (top 26)) .none kV__law_words dc__law_words pm__law_words an__law_words cd__law_words ct__law_words), sl__law_words⟩)
    (c__law_words : PySem.W.codeIn K cd__law_words "_law_words" = true)
    (k__law_words : PySem.W.keepIn K (.ref f__law_words) = true)
    {f_law : Addr}
    {oc_law kV_law dc_law pm_law cd_law ct_law : Value}
    {od_law an_law : Option Addr}
    {sl_law : Array (Option Value)}
    (a_law : PySem.W.nsIn K mainGlobals "law" = some (some (.ref f_law)))
    (l_law : K.lookup f_law = some ⟨oc_law, od_law, .func (PySem.W.fnOf "law" "law" (defArgs (top 27)) (defBody (top 27)) (defScope (top 27)) .none kV_law dc_law pm_law an_law cd_law ct_law), sl_law⟩)
    (c_law : PySem.W.codeIn K cd_law "law" = true)
    (k_law : PySem.W.keepIn K (.ref f_law) = true)
    (chk : isaChk supX TYX [("DayError", C_DayError, [.ref C_DayError, .type "ValueError", .type "Exception", .type "BaseException", .type "object"]), ("InvalidName", C_InvalidName, [.ref C_InvalidName, .ref C_DayError, .type "ValueError", .type "Exception", .type "BaseException", .type "object"]), ("InvalidNet", C_InvalidNet, [.ref C_InvalidNet, .ref C_DayError, .type "ValueError", .type "Exception", .type "BaseException", .type "object"]), ("InvalidRow", C_InvalidRow, [.ref C_InvalidRow, .ref C_DayError, .type "ValueError", .type "Exception", .type "BaseException", .type "object"]), ("InvalidTable", C_InvalidTable, [.ref C_InvalidTable, .ref C_DayError, .type "ValueError", .type "Exception", .type "BaseException", .type "object"]), ("InvalidCourse", C_InvalidCourse, [.ref C_InvalidCourse, .ref C_DayError, .type "ValueError", .type "Exception", .type "BaseException", .type "object"]), ("InvalidWay", C_InvalidWay, [.ref C_InvalidWay, .ref C_DayError, .type "ValueError", .type "Exception", .type "BaseException", .type "object"]), ("InvalidDay", C_InvalidDay, [.ref C_InvalidDay, .ref C_DayError, .type "ValueError", .type "Exception", .type "BaseException", .type "object"]), ("InvalidDeal", C_InvalidDeal, [.ref C_InvalidDeal, .ref C_DayError, .type "ValueError", .type "Exception", .type "BaseException", .type "object"]), ("InvalidOperation", C_InvalidOperation, [.ref C_InvalidOperation, .ref C_DayError, .type "ValueError", .type "Exception", .type "BaseException", .type "object"]), ("InvalidCommand", C_InvalidCommand, [.ref C_InvalidCommand, .ref C_DayError, .type "ValueError", .type "Exception", .type "BaseException", .type "object"]), ("ParseError", C_ParseError, [.ref C_ParseError, .ref C_DayError, .type "ValueError", .type "Exception", .type "BaseException", .type "object"]), ("UnknownName", C_UnknownName, [.ref C_UnknownName, .type "KeyError", .type "LookupError", .type "Exception", .type "BaseException", .type "object"]), ("InvalidNumber", C_InvalidNumber, [.ref C_InvalidNumber, .type "RuntimeError", .type "Exception", .type "BaseException", .type "object"]), ("TooMany", C_TooMany, [.ref C_TooMany, .type "OverflowError", .type "ArithmeticError", .type "Exception", .type "BaseException", .type "object"]), ("Refused", C_Refused, [.ref C_Refused, .type "ArithmeticError", .type "Exception", .type "BaseException", .type "object"]), ("NothingToUndo", C_NothingToUndo, [.ref C_NothingToUndo, .type "IndexError", .type "LookupError", .type "Exception", .type "BaseException", .type "object"])] = true) : ∃ T : Facts K mg, T.law.f = f_law ∧ T.law.fd = PySem.W.fnOf "law" "law" (defArgs (top 27)) (defBody (top 27)) (defScope (top 27)) .none kV_law dc_law pm_law an_law cd_law ct_law := by
  let T : Facts K mg := {
    c_DayError := ⟨C_DayError, PySem.W.mg_of X G a_DayError, ⟨q_DayError, i_DayError, k_DayError⟩⟩
    c_InvalidName := ⟨C_InvalidName, PySem.W.mg_of X G a_InvalidName, ⟨q_InvalidName, i_InvalidName, k_InvalidName⟩⟩
    c_InvalidNet := ⟨C_InvalidNet, PySem.W.mg_of X G a_InvalidNet, ⟨q_InvalidNet, i_InvalidNet, k_InvalidNet⟩⟩
    c_InvalidRow := ⟨C_InvalidRow, PySem.W.mg_of X G a_InvalidRow, ⟨q_InvalidRow, i_InvalidRow, k_InvalidRow⟩⟩
    c_InvalidTable := ⟨C_InvalidTable, PySem.W.mg_of X G a_InvalidTable, ⟨q_InvalidTable, i_InvalidTable, k_InvalidTable⟩⟩
    c_InvalidCourse := ⟨C_InvalidCourse, PySem.W.mg_of X G a_InvalidCourse, ⟨q_InvalidCourse, i_InvalidCourse, k_InvalidCourse⟩⟩
    c_InvalidWay := ⟨C_InvalidWay, PySem.W.mg_of X G a_InvalidWay, ⟨q_InvalidWay, i_InvalidWay, k_InvalidWay⟩⟩
    c_InvalidDay := ⟨C_InvalidDay, PySem.W.mg_of X G a_InvalidDay, ⟨q_InvalidDay, i_InvalidDay, k_InvalidDay⟩⟩
    c_InvalidDeal := ⟨C_InvalidDeal, PySem.W.mg_of X G a_InvalidDeal, ⟨q_InvalidDeal, i_InvalidDeal, k_InvalidDeal⟩⟩
    c_InvalidOperation := ⟨C_InvalidOperation, PySem.W.mg_of X G a_InvalidOperation, ⟨q_InvalidOperation, i_InvalidOperation, k_InvalidOperation⟩⟩
    c_InvalidCommand := ⟨C_InvalidCommand, PySem.W.mg_of X G a_InvalidCommand, ⟨q_InvalidCommand, i_InvalidCommand, k_InvalidCommand⟩⟩
    c_ParseError := ⟨C_ParseError, I_ParseError, cc_ParseError, cda_ParseError, PySem.W.mg_of X G a_ParseError, ⟨⟨_, _, _, _, _, _, _, _, l_ParseError⟩, cd1_ParseError, ti_ParseError, i_ParseError, ⟨_, _, _, _, _, _, x_ParseError, x2_ParseError, x3_ParseError⟩, ⟨_, _, _, ce_ParseError⟩, PySem.W.mg_none_of X G b_super, htop, q_ParseError, hts, sm_ParseError, sB_ParseError, sa_ParseError, pass_q hd_ParseError m_ParseError (fun self => by rw [PySem.refuseLoop_ref, PySem.refuseLoop_ref]; exact PySem.F.store_ValueError.passes self), mo_ParseError, ms_ParseError, no_ParseError, k_ParseError⟩⟩
    c_UnknownName := ⟨C_UnknownName, I_UnknownName, cc_UnknownName, cda_UnknownName, PySem.W.mg_of X G a_UnknownName, ⟨⟨_, _, _, _, _, _, _, _, l_UnknownName⟩, cd1_UnknownName, ti_UnknownName, i_UnknownName, ⟨_, _, _, _, _, _, x_UnknownName, x2_UnknownName, x3_UnknownName⟩, ⟨_, _, _, ce_UnknownName⟩, PySem.W.mg_none_of X G b_super, htop, q_UnknownName, hts, sm_UnknownName, sB_UnknownName, sa_UnknownName, pass_q hd_UnknownName m_UnknownName (fun self => by rw [PySem.refuseLoop_ref]; exact pass_Key self), mo_UnknownName, ms_UnknownName, no_UnknownName, k_UnknownName⟩⟩
    c_InvalidNumber := ⟨C_InvalidNumber, I_InvalidNumber, cc_InvalidNumber, cda_InvalidNumber, PySem.W.mg_of X G a_InvalidNumber, ⟨⟨_, _, _, _, _, _, _, _, l_InvalidNumber⟩, cd1_InvalidNumber, ti_InvalidNumber, i_InvalidNumber, ⟨_, _, _, _, _, _, x_InvalidNumber, x2_InvalidNumber, x3_InvalidNumber⟩, ⟨_, _, _, ce_InvalidNumber⟩, PySem.W.mg_none_of X G b_super, htop, q_InvalidNumber, hts, sm_InvalidNumber, sB_InvalidNumber, sa_InvalidNumber, pass_q hd_InvalidNumber m_InvalidNumber (fun self => by rw [PySem.refuseLoop_ref]; exact PySem.F.store_RuntimeError.passes self), mo_InvalidNumber, ms_InvalidNumber, no_InvalidNumber, k_InvalidNumber⟩⟩
    c_TooMany := ⟨C_TooMany, I_TooMany, cc_TooMany, cda_TooMany, PySem.W.mg_of X G a_TooMany, ⟨⟨_, _, _, _, _, _, _, _, l_TooMany⟩, cd1_TooMany, ti_TooMany, i_TooMany, ⟨_, _, _, _, _, _, x_TooMany, x2_TooMany, x3_TooMany⟩, ⟨_, _, _, ce_TooMany⟩, PySem.W.mg_none_of X G b_super, htop, q_TooMany, hts, sm_TooMany, sB_TooMany, sa_TooMany, pass_q hd_TooMany m_TooMany (fun self => by rw [PySem.refuseLoop_ref]; exact PySem.F.store_OverflowError.passes self), mo_TooMany, ms_TooMany, no_TooMany, k_TooMany⟩⟩
    c_Refused := ⟨C_Refused, I_Refused, cc_Refused, cda_Refused, PySem.W.mg_of X G a_Refused, ⟨⟨_, _, _, _, _, _, _, _, l_Refused⟩, cd1_Refused, ti_Refused, i_Refused, ⟨_, _, _, _, _, _, x_Refused, x2_Refused, x3_Refused⟩, ⟨_, _, _, ce_Refused⟩, PySem.W.mg_none_of X G b_super, htop, q_Refused, hts, sm_Refused, sB_Refused, sa_Refused, pass_q hd_Refused m_Refused (fun self => by rw [PySem.refuseLoop_ref]; exact PySem.F.store_ArithmeticError.passes self), mo_Refused, ms_Refused, no_Refused, k_Refused⟩⟩
    c_NothingToUndo := ⟨C_NothingToUndo, I_NothingToUndo, cc_NothingToUndo, cda_NothingToUndo, PySem.W.mg_of X G a_NothingToUndo, ⟨⟨_, _, _, _, _, _, _, _, l_NothingToUndo⟩, cd1_NothingToUndo, ti_NothingToUndo, i_NothingToUndo, ⟨_, _, _, _, _, _, x_NothingToUndo, x2_NothingToUndo, x3_NothingToUndo⟩, ⟨_, _, _, ce_NothingToUndo⟩, PySem.W.mg_none_of X G b_super, htop, q_NothingToUndo, hts, sm_NothingToUndo, sB_NothingToUndo, sa_NothingToUndo, pass_q hd_NothingToUndo m_NothingToUndo (fun self => by rw [PySem.refuseLoop_ref]; exact PySem.F.store_IndexError.passes self), mo_NothingToUndo, ms_NothingToUndo, no_NothingToUndo, k_NothingToUndo⟩⟩
    ArithmeticError := PySem.W.mg_none_of X G b_ArithmeticError
    IndexError := PySem.W.mg_none_of X G b_IndexError
    KeyError := PySem.W.mg_none_of X G b_KeyError
    LookupError := PySem.W.mg_none_of X G b_LookupError
    OverflowError := PySem.W.mg_none_of X G b_OverflowError
    RuntimeError := PySem.W.mg_none_of X G b_RuntimeError
    TypeError := PySem.W.mg_none_of X G b_TypeError
    ValueError := PySem.W.mg_none_of X G b_ValueError
    ZeroDivisionError := PySem.W.mg_none_of X G b_ZeroDivisionError
    abs := PySem.W.mg_none_of X G b_abs
    int := PySem.W.mg_none_of X G b_int
    isinstance := PySem.W.mg_none_of X G b_isinstance
    len := PySem.W.mg_none_of X G b_len
    max := PySem.W.mg_none_of X G b_max
    min := PySem.W.mg_none_of X G b_min
    range := PySem.W.mg_none_of X G b_range
    repr := PySem.W.mg_none_of X G b_repr
    str := PySem.W.mg_none_of X G b_str
    super := PySem.W.mg_none_of X G b_super
    _law_dice := ⟨f__law_dice, _, fun_mk (st := top 19) l__law_dice c__law_dice k__law_dice, (fun_mk (st := top 19) l__law_dice c__law_dice k__law_dice).binds (ps := ["script", "spot"]) fun _ _ _ _ _ _ us hl => match us, hl with | [_, _], _ => rfl, PySem.W.mg_of X G a__law_dice⟩
    _law_roll := ⟨f__law_roll, _, fun_mk (st := top 20) l__law_roll c__law_roll k__law_roll, (fun_mk (st := top 20) l__law_roll c__law_roll k__law_roll).binds (ps := ["dice", "total"]) fun _ _ _ _ _ _ us hl => match us, hl with | [_, _], _ => rfl, PySem.W.mg_of X G a__law_roll⟩
    _law_pick := ⟨f__law_pick, _, fun_mk (st := top 21) l__law_pick c__law_pick k__law_pick, (fun_mk (st := top 21) l__law_pick c__law_pick k__law_pick).binds (ps := ["dice", "items"]) fun _ _ _ _ _ _ us hl => match us, hl with | [_, _], _ => rfl, PySem.W.mg_of X G a__law_pick⟩
    _law_made := ⟨f__law_made, _, fun_mk (st := top 22) l__law_made c__law_made k__law_made, (fun_mk (st := top 22) l__law_made c__law_made k__law_made).binds (ps := ["word", "value"]) fun _ _ _ _ _ _ us hl => match us, hl with | [_, _], _ => rfl, PySem.W.mg_of X G a__law_made⟩
    _law_kept := ⟨f__law_kept, _, fun_mk (st := top 23) l__law_kept c__law_kept k__law_kept, (fun_mk (st := top 23) l__law_kept c__law_kept k__law_kept).binds (ps := ["word", "error"]) fun _ _ _ _ _ _ us hl => match us, hl with | [_, _], _ => rfl, PySem.W.mg_of X G a__law_kept⟩
    _law_kinds := ⟨f__law_kinds, _, fun_mk (st := top 24) l__law_kinds c__law_kinds k__law_kinds, (fun_mk (st := top 24) l__law_kinds c__law_kinds k__law_kinds).binds (ps := ["error"]) fun _ _ _ _ _ _ us hl => match us, hl with | [_], _ => rfl, PySem.W.mg_of X G a__law_kinds⟩
    _law_due := ⟨f__law_due, _, fun_mk (st := top 25) l__law_due c__law_due k__law_due, (fun_mk (st := top 25) l__law_due c__law_due k__law_due).binds (ps := ["word"]) fun _ _ _ _ _ _ us hl => match us, hl with | [_], _ => rfl, PySem.W.mg_of X G a__law_due⟩
    _law_words := ⟨f__law_words, _, fun_mk (st := top 26) l__law_words c__law_words k__law_words, (fun_mk (st := top 26) l__law_words c__law_words k__law_words).binds (ps := []) fun _ _ _ _ _ _ us hl => match us, hl with | [], _ => rfl, PySem.W.mg_of X G a__law_words⟩
    law := ⟨f_law, _, fun_mk (st := top 27) l_law c_law k_law, (fun_mk (st := top 27) l_law c_law k_law).binds (ps := ["script"]) fun _ _ _ _ _ _ us hl => match us, hl with | [_], _ => rfl, PySem.W.mg_of X G a_law⟩
    isa := isa_mk _ (by exact ⟨⟨PySem.W.mg_of X G a_DayError, ⟨cl_of m_DayError, ga_DayError, gg_DayError, sb_DayError, ca_DayError, hsp, htk, mo_DayError⟩, m_DayError, t_DayError⟩, ⟨PySem.W.mg_of X G a_InvalidName, ⟨cl_of m_InvalidName, ga_InvalidName, gg_InvalidName, sb_InvalidName, ca_InvalidName, hsp, htk, mo_InvalidName⟩, m_InvalidName, t_InvalidName⟩, ⟨PySem.W.mg_of X G a_InvalidNet, ⟨cl_of m_InvalidNet, ga_InvalidNet, gg_InvalidNet, sb_InvalidNet, ca_InvalidNet, hsp, htk, mo_InvalidNet⟩, m_InvalidNet, t_InvalidNet⟩, ⟨PySem.W.mg_of X G a_InvalidRow, ⟨cl_of m_InvalidRow, ga_InvalidRow, gg_InvalidRow, sb_InvalidRow, ca_InvalidRow, hsp, htk, mo_InvalidRow⟩, m_InvalidRow, t_InvalidRow⟩, ⟨PySem.W.mg_of X G a_InvalidTable, ⟨cl_of m_InvalidTable, ga_InvalidTable, gg_InvalidTable, sb_InvalidTable, ca_InvalidTable, hsp, htk, mo_InvalidTable⟩, m_InvalidTable, t_InvalidTable⟩, ⟨PySem.W.mg_of X G a_InvalidCourse, ⟨cl_of m_InvalidCourse, ga_InvalidCourse, gg_InvalidCourse, sb_InvalidCourse, ca_InvalidCourse, hsp, htk, mo_InvalidCourse⟩, m_InvalidCourse, t_InvalidCourse⟩, ⟨PySem.W.mg_of X G a_InvalidWay, ⟨cl_of m_InvalidWay, ga_InvalidWay, gg_InvalidWay, sb_InvalidWay, ca_InvalidWay, hsp, htk, mo_InvalidWay⟩, m_InvalidWay, t_InvalidWay⟩, ⟨PySem.W.mg_of X G a_InvalidDay, ⟨cl_of m_InvalidDay, ga_InvalidDay, gg_InvalidDay, sb_InvalidDay, ca_InvalidDay, hsp, htk, mo_InvalidDay⟩, m_InvalidDay, t_InvalidDay⟩, ⟨PySem.W.mg_of X G a_InvalidDeal, ⟨cl_of m_InvalidDeal, ga_InvalidDeal, gg_InvalidDeal, sb_InvalidDeal, ca_InvalidDeal, hsp, htk, mo_InvalidDeal⟩, m_InvalidDeal, t_InvalidDeal⟩, ⟨PySem.W.mg_of X G a_InvalidOperation, ⟨cl_of m_InvalidOperation, ga_InvalidOperation, gg_InvalidOperation, sb_InvalidOperation, ca_InvalidOperation, hsp, htk, mo_InvalidOperation⟩, m_InvalidOperation, t_InvalidOperation⟩, ⟨PySem.W.mg_of X G a_InvalidCommand, ⟨cl_of m_InvalidCommand, ga_InvalidCommand, gg_InvalidCommand, sb_InvalidCommand, ca_InvalidCommand, hsp, htk, mo_InvalidCommand⟩, m_InvalidCommand, t_InvalidCommand⟩, ⟨PySem.W.mg_of X G a_ParseError, ⟨cl_of m_ParseError, ga_ParseError, gg_ParseError, sb_ParseError, ca_ParseError, hsp, htk, mo_ParseError⟩, m_ParseError, t_ParseError⟩, ⟨PySem.W.mg_of X G a_UnknownName, ⟨cl_of m_UnknownName, ga_UnknownName, gg_UnknownName, sb_UnknownName, ca_UnknownName, hsp, htk, mo_UnknownName⟩, m_UnknownName, t_UnknownName⟩, ⟨PySem.W.mg_of X G a_InvalidNumber, ⟨cl_of m_InvalidNumber, ga_InvalidNumber, gg_InvalidNumber, sb_InvalidNumber, ca_InvalidNumber, hsp, htk, mo_InvalidNumber⟩, m_InvalidNumber, t_InvalidNumber⟩, ⟨PySem.W.mg_of X G a_TooMany, ⟨cl_of m_TooMany, ga_TooMany, gg_TooMany, sb_TooMany, ca_TooMany, hsp, htk, mo_TooMany⟩, m_TooMany, t_TooMany⟩, ⟨PySem.W.mg_of X G a_Refused, ⟨cl_of m_Refused, ga_Refused, gg_Refused, sb_Refused, ca_Refused, hsp, htk, mo_Refused⟩, m_Refused, t_Refused⟩, ⟨PySem.W.mg_of X G a_NothingToUndo, ⟨cl_of m_NothingToUndo, ga_NothingToUndo, gg_NothingToUndo, sb_NothingToUndo, ca_NothingToUndo, hsp, htk, mo_NothingToUndo⟩, m_NothingToUndo, t_NothingToUndo⟩, trivial⟩) chk
    strOk := fun n hn C hC => by
      have hn := List.contains_iff_mem.mp hn
      simp only [strL, List.mem_cons, List.not_mem_nil, or_false] at hn
      rcases hn with rfl | rfl | rfl | rfl | rfl | rfl | rfl | rfl | rfl | rfl | rfl
      · have e := hC.symm.trans (PySem.W.mg_of X G a_DayError); cases e; exact ⟨s_DayError, sb_DayError⟩
      · have e := hC.symm.trans (PySem.W.mg_of X G a_InvalidName); cases e; exact ⟨s_InvalidName, sb_InvalidName⟩
      · have e := hC.symm.trans (PySem.W.mg_of X G a_InvalidNet); cases e; exact ⟨s_InvalidNet, sb_InvalidNet⟩
      · have e := hC.symm.trans (PySem.W.mg_of X G a_InvalidRow); cases e; exact ⟨s_InvalidRow, sb_InvalidRow⟩
      · have e := hC.symm.trans (PySem.W.mg_of X G a_InvalidTable); cases e; exact ⟨s_InvalidTable, sb_InvalidTable⟩
      · have e := hC.symm.trans (PySem.W.mg_of X G a_InvalidCourse); cases e; exact ⟨s_InvalidCourse, sb_InvalidCourse⟩
      · have e := hC.symm.trans (PySem.W.mg_of X G a_InvalidWay); cases e; exact ⟨s_InvalidWay, sb_InvalidWay⟩
      · have e := hC.symm.trans (PySem.W.mg_of X G a_InvalidDay); cases e; exact ⟨s_InvalidDay, sb_InvalidDay⟩
      · have e := hC.symm.trans (PySem.W.mg_of X G a_InvalidDeal); cases e; exact ⟨s_InvalidDeal, sb_InvalidDeal⟩
      · have e := hC.symm.trans (PySem.W.mg_of X G a_InvalidOperation); cases e; exact ⟨s_InvalidOperation, sb_InvalidOperation⟩
      · have e := hC.symm.trans (PySem.W.mg_of X G a_InvalidCommand); cases e; exact ⟨s_InvalidCommand, sb_InvalidCommand⟩
    fld_line := fun n hn C hC => by
      have hn := List.contains_iff_mem.mp hn
      simp only [strL, List.mem_cons, List.not_mem_nil, or_false] at hn
      rcases hn with rfl
      · have e := hC.symm.trans (PySem.W.mg_of X G a_ParseError); cases e; exact ⟨⟨cl_of m_ParseError, ga_ParseError, gg_ParseError, sb_ParseError, ca_ParseError, hsp, htk, mo_ParseError⟩, hd_ParseError, no_ParseError⟩
    fld_given := fun n hn C hC => by
      have hn := List.contains_iff_mem.mp hn
      simp only [strL, List.mem_cons, List.not_mem_nil, or_false] at hn
      rcases hn with rfl
      · have e := hC.symm.trans (PySem.W.mg_of X G a_InvalidNumber); cases e; exact ⟨⟨cl_of m_InvalidNumber, ga_InvalidNumber, gg_InvalidNumber, sb_InvalidNumber, ca_InvalidNumber, hsp, htk, mo_InvalidNumber⟩, hd_InvalidNumber, no_InvalidNumber⟩
    fld_limit := fun n hn C hC => by
      have hn := List.contains_iff_mem.mp hn
      simp only [strL, List.mem_cons, List.not_mem_nil, or_false] at hn
      rcases hn with rfl
      · have e := hC.symm.trans (PySem.W.mg_of X G a_TooMany); cases e; exact ⟨⟨cl_of m_TooMany, ga_TooMany, gg_TooMany, sb_TooMany, ca_TooMany, hsp, htk, mo_TooMany⟩, hd_TooMany, no_TooMany⟩
    fld_reason := fun n hn C hC => by
      have hn := List.contains_iff_mem.mp hn
      simp only [strL, List.mem_cons, List.not_mem_nil, or_false] at hn
      rcases hn with rfl
      · have e := hC.symm.trans (PySem.W.mg_of X G a_Refused); cases e; exact ⟨⟨cl_of m_Refused, ga_Refused, gg_Refused, sb_Refused, ca_Refused, hsp, htk, mo_Refused⟩, hd_Refused, no_Refused⟩
    fld_wanted := fun n hn C hC => by
      have hn := List.contains_iff_mem.mp hn
      simp only [strL, List.mem_cons, List.not_mem_nil, or_false] at hn
      rcases hn with rfl | rfl
      · have e := hC.symm.trans (PySem.W.mg_of X G a_UnknownName); cases e; exact ⟨⟨cl_of m_UnknownName, ga_UnknownName, gg_UnknownName, sb_UnknownName, ca_UnknownName, hsp, htk, mo_UnknownName⟩, hd_UnknownName, no_UnknownName⟩
      · have e := hC.symm.trans (PySem.W.mg_of X G a_NothingToUndo); cases e; exact ⟨⟨cl_of m_NothingToUndo, ga_NothingToUndo, gg_NothingToUndo, sb_NothingToUndo, ca_NothingToUndo, hsp, htk, mo_NothingToUndo⟩, hd_NothingToUndo, no_NothingToUndo⟩ }
  exact ⟨T, rfl, rfl⟩
theorem all_mk {w : World} {K : PySem.W.Frag} {h : Heap} {mg : Str → Option Value} {fa : Addr} (X : K.In h) (G : h.Ns mainGlobals mg) (hfa : mg "law" = some (.ref fa)) (E : ∃ T : Facts K mg, ∃ kV dc pm cd ct an, T.law.fd = PySem.W.fnOf "law" "law" (defArgs (top 27)) (defBody (top 27)) (defScope (top 27)) .none kV dc pm an cd ct) :
    ∃ fd : FuncData, (∀ (s : Shared) (u : Value), BindsTo s fd ⟨[u], []⟩ [("script", u)]) ∧ ∀ base : Heap, K.In base → base.Ns mainGlobals mg → FnG PW w K mg base 3 fa fd ["script"] (spD K mg none 1 lawD) := by
  obtain ⟨T, kV, dc, pm, cd, ct, an, e⟩ := E
  have ef : fa = T.law.f := by
    have z := hfa.symm.trans T.law.mg
    exact Value.ref.inj (Option.some.inj z)
  subst ef
  refine ⟨T.law.fd, fun s u => by rw [e]; exact .of_eq rfl, fun base _ _ => ?_⟩
  have g__law_dice := ok__law_dice (w := w) (base := base) T
  have g__law_roll := ok__law_roll (w := w) (base := base) T
  have g__law_pick := ok__law_pick (w := w) (base := base) T g__law_roll
  have g__law_made := ok__law_made (w := w) (base := base) T
  have g__law_kept := ok__law_kept (w := w) (base := base) T
  have g__law_kinds := ok__law_kinds (w := w) (base := base) T
  have g__law_due := ok__law_due (w := w) (base := base) T
  have g__law_words := ok__law_words (w := w) (base := base) T
  have g_law := ok_law (w := w) (base := base) T g__law_dice g__law_pick g__law_made g__law_kept g__law_kinds g__law_due g__law_words
  exact g_law
end K01

open PySem PySem.W PyProof.Rows
set_option pp.deepTerms false
set_option maxRecDepth 100000 in
set_option maxHeartbeats 0 in
open_top hd01 for PySem.Challenge.rw_dawnway_k01_errors
set_option pp.maxSteps 300
theorem K01.E_of {K : PySem.W.Frag} {mg : Str → Option Value} {f : Addr} {kV dc pm cd ct : Value} {an : Option Addr} (h : ∃ T : K01.Facts K mg, T.law.f = f ∧ T.law.fd = PySem.W.fnOf "law" "law" (L2.defArgs (K01.top 27)) (L2.defBody (K01.top 27)) (L2.defScope (K01.top 27)) .none kV dc pm an cd ct) :
    ∃ T : K01.Facts K mg, ∃ kV dc pm cd ct an, T.law.fd = PySem.W.fnOf "law" "law" (L2.defArgs (K01.top 27)) (L2.defBody (K01.top 27)) (L2.defScope (K01.top 27)) .none kV dc pm an cd ct := let ⟨T, _, h⟩ := h; ⟨T, _, _, _, _, _, _, h⟩
set_option maxRecDepth 100000 in
set_option maxHeartbeats 0 in
theorem PySem.Challenge.cw_dawnway_k01_errors_holds : PySem.Challenge.rw_dawnway_k01_errors.Holds := by
  have yes : ∀ ns : List Int, ns.length ≤ 63 → ∃ out, K01.lawD [.lst (ns.map Q.D.int)] = .ok false (.bl true) out := fun ns _ => K01.yes ns
  refine hd01 ?_
  refine Q.walkG (l := PySem.Challenge.rw_dawnway_k01_errors) (n := 63) (k := 3) (x := "script") (F := K01.lawD) rfl (by decide) rfl ⟨rfl, by decide, by decide⟩ (fun w h Y => PySem.W.kIn_of Y) ?F yes
  case F =>
    intro w mg fa h KX G hmg
    refine' K01.all_mk (w := w) KX G hmg (K01.E_of (K01.facts_mk KX G ?a_DayError ?a_InvalidName ?a_InvalidNet ?a_InvalidRow ?a_InvalidTable ?a_InvalidCourse ?a_InvalidWay ?a_InvalidDay ?a_InvalidDeal ?a_InvalidOperation ?a_InvalidCommand ?a_ParseError ?a_UnknownName ?a_InvalidNumber ?a_TooMany ?a_Refused ?a_NothingToUndo ?q_DayError ?k_DayError ?m_DayError ?t_DayError ?ga_DayError ?gg_DayError ?sb_DayError ?ca_DayError ?mo_DayError ?i_DayError ?s_DayError ?q_InvalidName ?k_InvalidName ?m_InvalidName ?t_InvalidName ?ga_InvalidName ?gg_InvalidName ?sb_InvalidName ?ca_InvalidName ?mo_InvalidName ?i_InvalidName ?s_InvalidName ?q_InvalidNet ?k_InvalidNet ?m_InvalidNet ?t_InvalidNet ?ga_InvalidNet ?gg_InvalidNet ?sb_InvalidNet ?ca_InvalidNet ?mo_InvalidNet ?i_InvalidNet ?s_InvalidNet ?q_InvalidRow ?k_InvalidRow ?m_InvalidRow ?t_InvalidRow ?ga_InvalidRow ?gg_InvalidRow ?sb_InvalidRow ?ca_InvalidRow ?mo_InvalidRow ?i_InvalidRow ?s_InvalidRow ?q_InvalidTable ?k_InvalidTable ?m_InvalidTable ?t_InvalidTable ?ga_InvalidTable ?gg_InvalidTable ?sb_InvalidTable ?ca_InvalidTable ?mo_InvalidTable ?i_InvalidTable ?s_InvalidTable ?q_InvalidCourse ?k_InvalidCourse ?m_InvalidCourse ?t_InvalidCourse ?ga_InvalidCourse ?gg_InvalidCourse ?sb_InvalidCourse ?ca_InvalidCourse ?mo_InvalidCourse ?i_InvalidCourse ?s_InvalidCourse ?q_InvalidWay ?k_InvalidWay ?m_InvalidWay ?t_InvalidWay ?ga_InvalidWay ?gg_InvalidWay ?sb_InvalidWay ?ca_InvalidWay ?mo_InvalidWay ?i_InvalidWay ?s_InvalidWay ?q_InvalidDay ?k_InvalidDay ?m_InvalidDay ?t_InvalidDay ?ga_InvalidDay ?gg_InvalidDay ?sb_InvalidDay ?ca_InvalidDay ?mo_InvalidDay ?i_InvalidDay ?s_InvalidDay ?q_InvalidDeal ?k_InvalidDeal ?m_InvalidDeal ?t_InvalidDeal ?ga_InvalidDeal ?gg_InvalidDeal ?sb_InvalidDeal ?ca_InvalidDeal ?mo_InvalidDeal ?i_InvalidDeal ?s_InvalidDeal ?q_InvalidOperation ?k_InvalidOperation ?m_InvalidOperation ?t_InvalidOperation ?ga_InvalidOperation ?gg_InvalidOperation ?sb_InvalidOperation ?ca_InvalidOperation ?mo_InvalidOperation ?i_InvalidOperation ?s_InvalidOperation ?q_InvalidCommand ?k_InvalidCommand ?m_InvalidCommand ?t_InvalidCommand ?ga_InvalidCommand ?gg_InvalidCommand ?sb_InvalidCommand ?ca_InvalidCommand ?mo_InvalidCommand ?i_InvalidCommand ?s_InvalidCommand ?q_ParseError ?k_ParseError ?m_ParseError ?t_ParseError ?ga_ParseError ?gg_ParseError ?sb_ParseError ?ca_ParseError ?mo_ParseError ?i_ParseError ?l_ParseError ?cd1_ParseError ?ti_ParseError ?x_ParseError ?x2_ParseError ?x3_ParseError ?ce_ParseError ?sm_ParseError ?sB_ParseError ?sa_ParseError ?hd_ParseError ?ms_ParseError ?no_ParseError ?q_UnknownName ?k_UnknownName ?m_UnknownName ?t_UnknownName ?ga_UnknownName ?gg_UnknownName ?sb_UnknownName ?ca_UnknownName ?mo_UnknownName ?i_UnknownName ?l_UnknownName ?cd1_UnknownName ?ti_UnknownName ?x_UnknownName ?x2_UnknownName ?x3_UnknownName ?ce_UnknownName ?sm_UnknownName ?sB_UnknownName ?sa_UnknownName ?hd_UnknownName ?ms_UnknownName ?no_UnknownName ?q_InvalidNumber ?k_InvalidNumber ?m_InvalidNumber ?t_InvalidNumber ?ga_InvalidNumber ?gg_InvalidNumber ?sb_InvalidNumber ?ca_InvalidNumber ?mo_InvalidNumber ?i_InvalidNumber ?l_InvalidNumber ?cd1_InvalidNumber ?ti_InvalidNumber ?x_InvalidNumber ?x2_InvalidNumber ?x3_InvalidNumber ?ce_InvalidNumber ?sm_InvalidNumber ?sB_InvalidNumber ?sa_InvalidNumber ?hd_InvalidNumber ?ms_InvalidNumber ?no_InvalidNumber ?q_TooMany ?k_TooMany ?m_TooMany ?t_TooMany ?ga_TooMany ?gg_TooMany ?sb_TooMany ?ca_TooMany ?mo_TooMany ?i_TooMany ?l_TooMany ?cd1_TooMany ?ti_TooMany ?x_TooMany ?x2_TooMany ?x3_TooMany ?ce_TooMany ?sm_TooMany ?sB_TooMany ?sa_TooMany ?hd_TooMany ?ms_TooMany ?no_TooMany ?q_Refused ?k_Refused ?m_Refused ?t_Refused ?ga_Refused ?gg_Refused ?sb_Refused ?ca_Refused ?mo_Refused ?i_Refused ?l_Refused ?cd1_Refused ?ti_Refused ?x_Refused ?x2_Refused ?x3_Refused ?ce_Refused ?sm_Refused ?sB_Refused ?sa_Refused ?hd_Refused ?ms_Refused ?no_Refused ?q_NothingToUndo ?k_NothingToUndo ?m_NothingToUndo ?t_NothingToUndo ?ga_NothingToUndo ?gg_NothingToUndo ?sb_NothingToUndo ?ca_NothingToUndo ?mo_NothingToUndo ?i_NothingToUndo ?l_NothingToUndo ?cd1_NothingToUndo ?ti_NothingToUndo ?x_NothingToUndo ?x2_NothingToUndo ?x3_NothingToUndo ?ce_NothingToUndo ?sm_NothingToUndo ?sB_NothingToUndo ?sa_NothingToUndo ?hd_NothingToUndo ?ms_NothingToUndo ?no_NothingToUndo ?hsp ?htk ?hts ?htop ?b_ArithmeticError ?b_IndexError ?b_KeyError ?b_LookupError ?b_OverflowError ?b_RuntimeError ?b_TypeError ?b_ValueError ?b_ZeroDivisionError ?b_abs ?b_int ?b_isinstance ?b_len ?b_max ?b_min ?b_range ?b_repr ?b_str ?b_super ?a__law_dice ?l__law_dice ?c__law_dice ?k__law_dice ?a__law_roll ?l__law_roll ?c__law_roll ?k__law_roll ?a__law_pick ?l__law_pick ?c__law_pick ?k__law_pick ?a__law_made ?l__law_made ?c__law_made ?k__law_made ?a__law_kept ?l__law_kept ?c__law_kept ?k__law_kept ?a__law_kinds ?l__law_kinds ?c__law_kinds ?k__law_kinds ?a__law_due ?l__law_due ?c__law_due ?k__law_due ?a__law_words ?l__law_words ?c__law_words ?k__law_words ?a_law ?l_law ?c_law ?k_law ?chk))
    (case a_DayError => first | (k_is))
    (case a_InvalidName => first | (k_is))
    (case a_InvalidNet => first | (k_is))
    (case a_InvalidRow => first | (k_is))
    (case a_InvalidTable => first | (k_is))
    (case a_InvalidCourse => first | (k_is))
    (case a_InvalidWay => first | (k_is))
    (case a_InvalidDay => first | (k_is))
    (case a_InvalidDeal => first | (k_is))
    (case a_InvalidOperation => first | (k_is))
    (case a_InvalidCommand => first | (k_is))
    (case a_ParseError => first | (k_is))
    (case a_UnknownName => first | (k_is))
    (case a_InvalidNumber => first | (k_is))
    (case a_TooMany => first | (k_is))
    (case a_Refused => first | (k_is))
    (case a_NothingToUndo => first | (k_is))
    (case q_DayError => first | (first | kx_is | kernel_rfl | rfl))
    (case k_DayError => first | (k_is))
    (case m_DayError => first | (first | k_is | kernel_rfl | rfl))
    (case t_DayError => first | (k_is))
    (case ga_DayError => first | (k_is))
    (case gg_DayError => first | (k_is))
    (case sb_DayError => first | (k_is))
    (case ca_DayError => first | (k_is))
    (case mo_DayError => first | (k_is))
    (case i_DayError => first | (k_is))
    (case s_DayError => first | (k_is))
    (case q_InvalidName => first | (first | kx_is | kernel_rfl | rfl))
    (case k_InvalidName => first | (k_is))
    (case m_InvalidName => first | (first | k_is | kernel_rfl | rfl))
    (case t_InvalidName => first | (k_is))
    (case ga_InvalidName => first | (k_is))
    (case gg_InvalidName => first | (k_is))
    (case sb_InvalidName => first | (k_is))
    (case ca_InvalidName => first | (k_is))
    (case mo_InvalidName => first | (k_is))
    (case i_InvalidName => first | (k_is))
    (case s_InvalidName => first | (k_is))
    (case q_InvalidNet => first | (first | kx_is | kernel_rfl | rfl))
    (case k_InvalidNet => first | (k_is))
    (case m_InvalidNet => first | (first | k_is | kernel_rfl | rfl))
    (case t_InvalidNet => first | (k_is))
    (case ga_InvalidNet => first | (k_is))
    (case gg_InvalidNet => first | (k_is))
    (case sb_InvalidNet => first | (k_is))
    (case ca_InvalidNet => first | (k_is))
    (case mo_InvalidNet => first | (k_is))
    (case i_InvalidNet => first | (k_is))
    (case s_InvalidNet => first | (k_is))
    (case q_InvalidRow => first | (first | kx_is | kernel_rfl | rfl))
    (case k_InvalidRow => first | (k_is))
    (case m_InvalidRow => first | (first | k_is | kernel_rfl | rfl))
    (case t_InvalidRow => first | (k_is))
    (case ga_InvalidRow => first | (k_is))
    (case gg_InvalidRow => first | (k_is))
    (case sb_InvalidRow => first | (k_is))
    (case ca_InvalidRow => first | (k_is))
    (case mo_InvalidRow => first | (k_is))
    (case i_InvalidRow => first | (k_is))
    (case s_InvalidRow => first | (k_is))
    (case q_InvalidTable => first | (first | kx_is | kernel_rfl | rfl))
    (case k_InvalidTable => first | (k_is))
    (case m_InvalidTable => first | (first | k_is | kernel_rfl | rfl))
    (case t_InvalidTable => first | (k_is))
    (case ga_InvalidTable => first | (k_is))
    (case gg_InvalidTable => first | (k_is))
    (case sb_InvalidTable => first | (k_is))
    (case ca_InvalidTable => first | (k_is))
    (case mo_InvalidTable => first | (k_is))
    (case i_InvalidTable => first | (k_is))
    (case s_InvalidTable => first | (k_is))
    (case q_InvalidCourse => first | (first | kx_is | kernel_rfl | rfl))
    (case k_InvalidCourse => first | (k_is))
    (case m_InvalidCourse => first | (first | k_is | kernel_rfl | rfl))
    (case t_InvalidCourse => first | (k_is))
    (case ga_InvalidCourse => first | (k_is))
    (case gg_InvalidCourse => first | (k_is))
    (case sb_InvalidCourse => first | (k_is))
    (case ca_InvalidCourse => first | (k_is))
    (case mo_InvalidCourse => first | (k_is))
    (case i_InvalidCourse => first | (k_is))
    (case s_InvalidCourse => first | (k_is))
    (case q_InvalidWay => first | (first | kx_is | kernel_rfl | rfl))
    (case k_InvalidWay => first | (k_is))
    (case m_InvalidWay => first | (first | k_is | kernel_rfl | rfl))
    (case t_InvalidWay => first | (k_is))
    (case ga_InvalidWay => first | (k_is))
    (case gg_InvalidWay => first | (k_is))
    (case sb_InvalidWay => first | (k_is))
    (case ca_InvalidWay => first | (k_is))
    (case mo_InvalidWay => first | (k_is))
    (case i_InvalidWay => first | (k_is))
    (case s_InvalidWay => first | (k_is))
    (case q_InvalidDay => first | (first | kx_is | kernel_rfl | rfl))
    (case k_InvalidDay => first | (k_is))
    (case m_InvalidDay => first | (first | k_is | kernel_rfl | rfl))
    (case t_InvalidDay => first | (k_is))
    (case ga_InvalidDay => first | (k_is))
    (case gg_InvalidDay => first | (k_is))
    (case sb_InvalidDay => first | (k_is))
    (case ca_InvalidDay => first | (k_is))
    (case mo_InvalidDay => first | (k_is))
    (case i_InvalidDay => first | (k_is))
    (case s_InvalidDay => first | (k_is))
    (case q_InvalidDeal => first | (first | kx_is | kernel_rfl | rfl))
    (case k_InvalidDeal => first | (k_is))
    (case m_InvalidDeal => first | (first | k_is | kernel_rfl | rfl))
    (case t_InvalidDeal => first | (k_is))
    (case ga_InvalidDeal => first | (k_is))
    (case gg_InvalidDeal => first | (k_is))
    (case sb_InvalidDeal => first | (k_is))
    (case ca_InvalidDeal => first | (k_is))
    (case mo_InvalidDeal => first | (k_is))
    (case i_InvalidDeal => first | (k_is))
    (case s_InvalidDeal => first | (k_is))
    (case q_InvalidOperation => first | (first | kx_is | kernel_rfl | rfl))
    (case k_InvalidOperation => first | (k_is))
    (case m_InvalidOperation => first | (first | k_is | kernel_rfl | rfl))
    (case t_InvalidOperation => first | (k_is))
    (case ga_InvalidOperation => first | (k_is))
    (case gg_InvalidOperation => first | (k_is))
    (case sb_InvalidOperation => first | (k_is))
    (case ca_InvalidOperation => first | (k_is))
    (case mo_InvalidOperation => first | (k_is))
    (case i_InvalidOperation => first | (k_is))
    (case s_InvalidOperation => first | (k_is))
    (case q_InvalidCommand => first | (first | kx_is | kernel_rfl | rfl))
    (case k_InvalidCommand => first | (k_is))
    (case m_InvalidCommand => first | (first | k_is | kernel_rfl | rfl))
    (case t_InvalidCommand => first | (k_is))
    (case ga_InvalidCommand => first | (k_is))
    (case gg_InvalidCommand => first | (k_is))
    (case sb_InvalidCommand => first | (k_is))
    (case ca_InvalidCommand => first | (k_is))
    (case mo_InvalidCommand => first | (k_is))
    (case i_InvalidCommand => first | (k_is))
    (case s_InvalidCommand => first | (k_is))
    (case q_ParseError => first | (first | kx_is | kernel_rfl | rfl))
    (case k_ParseError => first | (k_is))
    (case m_ParseError => first | (first | k_is | kernel_rfl | rfl))
    (case t_ParseError => first | (k_is))
    (case ga_ParseError => first | (k_is))
    (case gg_ParseError => first | (k_is))
    (case sb_ParseError => first | (k_is))
    (case ca_ParseError => first | (k_is))
    (case mo_ParseError => first | (k_is))
    (case i_ParseError => first | (k_is))
    (case l_ParseError => first | (k_is))
    (case cd1_ParseError => first | (k_is))
    (case ti_ParseError => first | (k_is))
    (case x_ParseError => first | (k_is))
    (case x2_ParseError => first | (first | rfl | k_is))
    (case x3_ParseError => first | (first | rfl | decide | decide +kernel))
    (case ce_ParseError => first | (k_is))
    (case sm_ParseError => first | (first | ks_is | kernel_rfl))
    (case sB_ParseError => first | (k_is))
    (case sa_ParseError => first | (k_is))
    (case hd_ParseError => first | (k_is))
    (case ms_ParseError => first | (k_is))
    (case no_ParseError => first | (k_is))
    (case q_UnknownName => first | (first | kx_is | kernel_rfl | rfl))
    (case k_UnknownName => first | (k_is))
    (case m_UnknownName => first | (first | k_is | kernel_rfl | rfl))
    (case t_UnknownName => first | (k_is))
    (case ga_UnknownName => first | (k_is))
    (case gg_UnknownName => first | (k_is))
    (case sb_UnknownName => first | (k_is))
    (case ca_UnknownName => first | (k_is))
    (case mo_UnknownName => first | (k_is))
    (case i_UnknownName => first | (k_is))
    (case l_UnknownName => first | (k_is))
    (case cd1_UnknownName => first | (k_is))
    (case ti_UnknownName => first | (k_is))
    (case x_UnknownName => first | (k_is))
    (case x2_UnknownName => first | (first | rfl | k_is))
    (case x3_UnknownName => first | (first | rfl | decide | decide +kernel))
    (case ce_UnknownName => first | (k_is))
    (case sm_UnknownName => first | (first | ks_is | kernel_rfl))
    (case sB_UnknownName => first | (k_is))
    (case sa_UnknownName => first | (k_is))
    (case hd_UnknownName => first | (k_is))
    (case ms_UnknownName => first | (k_is))
    (case no_UnknownName => first | (k_is))
    (case q_InvalidNumber => first | (first | kx_is | kernel_rfl | rfl))
    (case k_InvalidNumber => first | (k_is))
    (case m_InvalidNumber => first | (first | k_is | kernel_rfl | rfl))
    (case t_InvalidNumber => first | (k_is))
    (case ga_InvalidNumber => first | (k_is))
    (case gg_InvalidNumber => first | (k_is))
    (case sb_InvalidNumber => first | (k_is))
    (case ca_InvalidNumber => first | (k_is))
    (case mo_InvalidNumber => first | (k_is))
    (case i_InvalidNumber => first | (k_is))
    (case l_InvalidNumber => first | (k_is))
    (case cd1_InvalidNumber => first | (k_is))
    (case ti_InvalidNumber => first | (k_is))
    (case x_InvalidNumber => first | (k_is))
    (case x2_InvalidNumber => first | (first | rfl | k_is))
    (case x3_InvalidNumber => first | (first | rfl | decide | decide +kernel))
    (case ce_InvalidNumber => first | (k_is))
    (case sm_InvalidNumber => first | (first | ks_is | kernel_rfl))
    (case sB_InvalidNumber => first | (k_is))
    (case sa_InvalidNumber => first | (k_is))
    (case hd_InvalidNumber => first | (k_is))
    (case ms_InvalidNumber => first | (k_is))
    (case no_InvalidNumber => first | (k_is))
    (case q_TooMany => first | (first | kx_is | kernel_rfl | rfl))
    (case k_TooMany => first | (k_is))
    (case m_TooMany => first | (first | k_is | kernel_rfl | rfl))
    (case t_TooMany => first | (k_is))
    (case ga_TooMany => first | (k_is))
    (case gg_TooMany => first | (k_is))
    (case sb_TooMany => first | (k_is))
    (case ca_TooMany => first | (k_is))
    (case mo_TooMany => first | (k_is))
    (case i_TooMany => first | (k_is))
    (case l_TooMany => first | (k_is))
    (case cd1_TooMany => first | (k_is))
    (case ti_TooMany => first | (k_is))
    (case x_TooMany => first | (k_is))
    (case x2_TooMany => first | (first | rfl | k_is))
    (case x3_TooMany => first | (first | rfl | decide | decide +kernel))
    (case ce_TooMany => first | (k_is))
    (case sm_TooMany => first | (first | ks_is | kernel_rfl))
    (case sB_TooMany => first | (k_is))
    (case sa_TooMany => first | (k_is))
    (case hd_TooMany => first | (k_is))
    (case ms_TooMany => first | (k_is))
    (case no_TooMany => first | (k_is))
    (case q_Refused => first | (first | kx_is | kernel_rfl | rfl))
    (case k_Refused => first | (k_is))
    (case m_Refused => first | (first | k_is | kernel_rfl | rfl))
    (case t_Refused => first | (k_is))
    (case ga_Refused => first | (k_is))
    (case gg_Refused => first | (k_is))
    (case sb_Refused => first | (k_is))
    (case ca_Refused => first | (k_is))
    (case mo_Refused => first | (k_is))
    (case i_Refused => first | (k_is))
    (case l_Refused => first | (k_is))
    (case cd1_Refused => first | (k_is))
    (case ti_Refused => first | (k_is))
    (case x_Refused => first | (k_is))
    (case x2_Refused => first | (first | rfl | k_is))
    (case x3_Refused => first | (first | rfl | decide | decide +kernel))
    (case ce_Refused => first | (k_is))
    (case sm_Refused => first | (first | ks_is | kernel_rfl))
    (case sB_Refused => first | (k_is))
    (case sa_Refused => first | (k_is))
    (case hd_Refused => first | (k_is))
    (case ms_Refused => first | (k_is))
    (case no_Refused => first | (k_is))
    (case q_NothingToUndo => first | (first | kx_is | kernel_rfl | rfl))
    (case k_NothingToUndo => first | (k_is))
    (case m_NothingToUndo => first | (first | k_is | kernel_rfl | rfl))
    (case t_NothingToUndo => first | (k_is))
    (case ga_NothingToUndo => first | (k_is))
    (case gg_NothingToUndo => first | (k_is))
    (case sb_NothingToUndo => first | (k_is))
    (case ca_NothingToUndo => first | (k_is))
    (case mo_NothingToUndo => first | (k_is))
    (case i_NothingToUndo => first | (k_is))
    (case l_NothingToUndo => first | (k_is))
    (case cd1_NothingToUndo => first | (k_is))
    (case ti_NothingToUndo => first | (k_is))
    (case x_NothingToUndo => first | (k_is))
    (case x2_NothingToUndo => first | (first | rfl | k_is))
    (case x3_NothingToUndo => first | (first | rfl | decide | decide +kernel))
    (case ce_NothingToUndo => first | (k_is))
    (case sm_NothingToUndo => first | (first | ks_is | kernel_rfl))
    (case sB_NothingToUndo => first | (k_is))
    (case sa_NothingToUndo => first | (k_is))
    (case hd_NothingToUndo => first | (k_is))
    (case ms_NothingToUndo => first | (k_is))
    (case no_NothingToUndo => first | (k_is))
    (case hsp => first | (k_is))
    (case htk => first | (k_is))
    (case hts => first | (k_is))
    (case htop => first | (first | rfl | decide | decide +kernel))
    (case b_ArithmeticError => first | (k_is))
    (case b_IndexError => first | (k_is))
    (case b_KeyError => first | (k_is))
    (case b_LookupError => first | (k_is))
    (case b_OverflowError => first | (k_is))
    (case b_RuntimeError => first | (k_is))
    (case b_TypeError => first | (k_is))
    (case b_ValueError => first | (k_is))
    (case b_ZeroDivisionError => first | (k_is))
    (case b_abs => first | (k_is))
    (case b_int => first | (k_is))
    (case b_isinstance => first | (k_is))
    (case b_len => first | (k_is))
    (case b_max => first | (k_is))
    (case b_min => first | (k_is))
    (case b_range => first | (k_is))
    (case b_repr => first | (k_is))
    (case b_str => first | (k_is))
    (case b_super => first | (k_is))
    (case a__law_dice => first | (k_is))
    (case l__law_dice => first | (k_is))
    (case c__law_dice => first | (k_is))
    (case k__law_dice => first | (k_is))
    (case a__law_roll => first | (k_is))
    (case l__law_roll => first | (k_is))
    (case c__law_roll => first | (k_is))
    (case k__law_roll => first | (k_is))
    (case a__law_pick => first | (k_is))
    (case l__law_pick => first | (k_is))
    (case c__law_pick => first | (k_is))
    (case k__law_pick => first | (k_is))
    (case a__law_made => first | (k_is))
    (case l__law_made => first | (k_is))
    (case c__law_made => first | (k_is))
    (case k__law_made => first | (k_is))
    (case a__law_kept => first | (k_is))
    (case l__law_kept => first | (k_is))
    (case c__law_kept => first | (k_is))
    (case k__law_kept => first | (k_is))
    (case a__law_kinds => first | (k_is))
    (case l__law_kinds => first | (k_is))
    (case c__law_kinds => first | (k_is))
    (case k__law_kinds => first | (k_is))
    (case a__law_due => first | (k_is))
    (case l__law_due => first | (k_is))
    (case c__law_due => first | (k_is))
    (case k__law_due => first | (k_is))
    (case a__law_words => first | (k_is))
    (case l__law_words => first | (k_is))
    (case c__law_words => first | (k_is))
    (case k__law_words => first | (k_is))
    (case a_law => first | (k_is))
    (case l_law => first | (k_is))
    (case c_law => first | (k_is))
    (case k_law => first | (k_is))
    (case chk => first | (first | decide | decide +kernel | rfl))
    all_goals first | exact Value.none | exact (none : Option Addr) | exact (#[] : Array (Option Value)) | exact (0 : Addr) | exact (#[] : Array Value) | exact (default : ClassData) | exact (default : Str) | exact (0 : Tok) | skip
