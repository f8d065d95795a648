import PyProof.Rows.All
import Wide.All
import OpenK.AllK
import Wide.FinOn
import KE.KLam
import HandS.EndTab
import HandS.Style
import HandS.ForMost
import HandS.Exc
import HandS.TryOnly
import HandS.ExcOwn
import HandS.WordsExc
import HandS.Wide
import HandS.IsInst
import HandS.Lambda
import HandS.Nested
import KE.DataEq
import HandS.TupAny
import HandS.SortInts
import HandS.SetFor
import HandS.Strs
import PyProof.Rows.SortShellAny
import HandS.ExcIs
import HandS.Deep
import HandS.WideBits
import KE.SortKeyHeap
import HandS.SortKw
import HandS.ClsMeth
import HandS.Defaults
import HandS.New0
import PyProof.IsRules
import KE.DatumOrd
import HandS.HotCalls
import HandS.Text
import HandS.Iter
import HandS.Dict
import HandS.Conv
import KE.KNestM
import HandS.Zip
import HandS.ExcInit
import HandS.ExcField
import KE.KExcIs
import HandS.Rev
import PyProof.ListRange
import HandS.More
import HandS.WordsDict
import HandS.RaiseMore
import HandS.EndBits
import PySem.Challenge.RW_spanmap_k91_numbers_and_spans_read
set_option Elab.async false
set_option linter.all false
set_option maxRecDepth 100000
set_option maxHeartbeats 4000000
namespace Eg
open PySem L2

/-- a test of which the kernel computes nothing -/
noncomputable def cB (p : Prop) : Bool := @decide p (Classical.propDecidable p)
theorem cB_of {p : Prop} (h : p) : cB p = true := @decide_eq_true p (Classical.propDecidable p) h
theorem of_cB {p : Prop} (h : cB p = true) : p := @of_decide_eq_true p (Classical.propDecidable p) h
/-! ### values without addresses -/
inductive Val where
  | non | bl (b : Bool) | int (i : Int) | str (x : Str) | tup (xs : List Val) | lst (xs : List Val) | dic (ks : List Key) (vs : List Val) | obj (i : Nat) | fn (n : Nat) | slst (xs : List Val)
inductive R where
  | val (v : Val) | own (vs : List Val) | ownd (ks : List Key) (vs : List Val)
@[simp] def R.v : R → Val
  | .val v => v | .own vs => .lst vs | .ownd ks vs => .dic ks vs
structure Ob where
  c : Nat
  fs : List (Str × Val)
abbrev Store := List Ob
inductive Out (α : Type) where
  | ok (a : α) (st : Store) | exc (c : Nat) (fs : List (Str × Val)) (st : Store) | bad
/-- what a thing that can be called tells of plain values -/
abbrev FV := List Val → Store → Out Val
inductive Slot where
  | val (v : Val) | own (vs : List Val) | brw (vs : List Val) | ownd (ks : List Key) (vs : List Val) | brwd (ks : List Key) (vs : List Val) | lkd (ks : List Key) (vs : List Val) | exn (c : Nat) | fnv (g : FV)
inductive Arg where
  | val (v : Val) | brw (vs : List Val) | brwd (ks : List Key) (vs : List Val) | fnv (g : FV)
abbrev Evn := List (Option Slot)
def Out.bind {α β : Type} (o : Out α) (f : α → Store → Out β) : Out β := match o with
  | .ok a st => f a st | .exc c fs st => .exc c fs st | .bad => .bad
inductive OutS where
  | nx (env : Evn) (st : Store) | rt (r : R) (st : Store) | bk (env : Evn) (st : Store) | ct (env : Evn) (st : Store) | exc (c : Nat) (fs : List (Str × Val)) (env : Evn) (st : Store) | bad
abbrev DP := Evn → Store → Out Val
abbrev DE := Evn → Store → Out R
abbrev DT := Evn → Store → Out Bool
abbrev DA := Evn → Store → Out (List Arg)
abbrev DS := Evn → Store → OutS
abbrev FD := List Arg → Store → Out R

/-! ### what they stand for -/
structure Stc where
  cls : Nat → Addr
  fns : Nat → Addr
  ea : Addr := 0
  /-- the tables of code objects -/
  T : List NdefX.NTab := []
  /-- what can be called, as what, by which things known -/
  cal : Addr → FV → List (Addr × HO) → Prop := fun _ _ _ => False
structure Gh where
  rho : List Addr
  G : Hp
  /-- objects of which nothing may change any more -/
  dd : List Nat := []
/-- the address of a thing of the store that may change -/
def Gh.mt (S : Gh) (a : Addr) : Prop := ∃ i, S.rho[i]? = some a ∧ i ∉ S.dd
/-- a list's number as a class, a dict's, that of what is gone -/
abbrev cL : Nat := 1000000
abbrev cD : Nat := 1000001
abbrev cX : Nat := 1000002
@[simp] def cellL (vs : List Val) : Ob := ⟨cL, [(Str.empty, .lst vs)]⟩
@[simp] def cellD (ks : List Key) (vs : List Val) : Ob := ⟨cD, [(Str.empty, .dic ks vs)]⟩
@[simp] def cellX : Ob := ⟨cX, []⟩
section
variable (K : PySem.W.Frag) (Z : Stc) (S : Gh)
mutual
def Rep : Val → V → Prop
  | .non, x => x = .non
  | .bl b, x => x = .bl b
  | .int i, x => x = .int i
  | .str s, x => x = .str s
  | .tup vs, x => ∃ a xs, x = .ref a ∧ SqT K S.G a xs ∧ RepL vs xs
  | .lst vs, x => ∃ a xs, x = .ref a ∧ S.G a = some (.lst xs) ∧ RepL vs xs
  | .slst vs, x => ∃ a xs, x = .ref a ∧ SqL K S.G a xs ∧ RepL vs xs
  | .dic ks vs, x => ∃ a kxs, x = .ref a ∧ (∃ o, S.G a = some (.frz o (.dK kxs))) ∧ kxs.map (·.1) = ks ∧ RepL vs (kxs.map (·.2))
  | .obj i, x => ∃ a, S.rho[i]? = some a ∧ x = .ref a
  | .fn n, x => x = .ref (Z.fns n)
def RepL : List Val → List V → Prop
  | [], xs => xs = []
  | v :: vs, xs => ∃ x r, xs = x :: r ∧ Rep v x ∧ RepL vs r
end
def FsR (fs : List (Str × V)) (gs : List (Str × Val)) : Prop := fs.map (·.1) = gs.map (·.1) ∧ RepL K Z S (gs.map (·.2)) (fs.map (·.2))
def PRep (H : Hp) : Val → V → Prop
  | .lst vs, x => ∃ a xs, x = .ref a ∧ H a = some (.lst xs) ∧ RepL K Z S vs xs
  | .dic ks vs, x => ∃ a kxs, x = .ref a ∧ Rd H a (.dK kxs) ∧ kxs.map (·.1) = ks ∧ RepL K Z S vs (kxs.map (·.2))
  | v, x => Rep K Z S v x
/-- its own thing is none of the store's -/
def Nm : Val → V → Prop
  | .lst _, x => ∀ a, x = .ref a → ¬ S.mt a
  | .dic _ _, x => ∀ a, x = .ref a → ¬ S.mt a
  | _, _ => True
/-- .. and so it stays while other things run -/
structure PRepS (H : Hp) (v : Val) (x : V) : Prop where
  p : PRep K Z S H v x
  n : Nm S v x
/-- an own thing's address -/
structure Ng (l : Addr) : Prop where
  g : S.G l = none
  m : ¬ S.mt l
/-- a thing that is looked at -/
structure HL (H : Hp) (l : Addr) (o : HO) : Prop where
  h : H l = some o
  m : ¬ S.mt l
structure HD (H : Hp) (l : Addr) (o : HO) : Prop where
  h : Rd H l o
  m : ¬ S.mt l
/-- .. that stands still -/
structure HK (H : Hp) (l : Addr) (u : HO) : Prop where
  h : ∃ o, H l = some (.frz o u)
  m : ¬ S.mt l
/-- a result; H0: the heap ahead of it -/
def RR (H0 H : Hp) : R → V → Prop
  | .val v, x => Rep K Z S v x
  | .own vs, x => ∃ l xs, x = .ref l ∧ H l = some (.lst xs) ∧ Ng S l ∧ H0 l = none ∧ RepL K Z S vs xs
  | .ownd ks vs, x => ∃ l kxs, x = .ref l ∧ H l = some (.dK kxs) ∧ Ng S l ∧ H0 l = none ∧ kxs.map (·.1) = ks ∧ RepL K Z S vs (kxs.map (·.2))
/-- what a thing that can be called leans on -/
def CO : HO → Prop
  | .ext _ => True | .frz _ (.ext _) => True | .xd _ => True | _ => False
def FnvR (H : Hp) (g : FV) (x : V) : Prop := ∃ f B, x = .ref f ∧ Z.cal f g B ∧ ∀ p ∈ B, CO p.2 ∧ H p.1 = some p.2
def SlR (H : Hp) : Slot → V → Prop
  | .fnv g, x => FnvR Z H g x
  | .val v, x => Rep K Z S v x
  | .exn _, x => x = .ref Z.ea
  | .own vs, x => ∃ l xs, x = .ref l ∧ H l = some (.lst xs) ∧ Ng S l ∧ RepL K Z S vs xs
  | .brw vs, x => ∃ l xs, x = .ref l ∧ HL S H l (.lst xs) ∧ RepL K Z S vs xs
  | .ownd ks vs, x => ∃ l kxs, x = .ref l ∧ H l = some (.dK kxs) ∧ Ng S l ∧ kxs.map (·.1) = ks ∧ RepL K Z S vs (kxs.map (·.2))
  | .brwd ks vs, x => ∃ l kxs, x = .ref l ∧ HD S H l (.dK kxs) ∧ kxs.map (·.1) = ks ∧ RepL K Z S vs (kxs.map (·.2))
  | .lkd ks vs, x => ∃ l kxs, x = .ref l ∧ HK S H l (.dK kxs) ∧ kxs.map (·.1) = ks ∧ RepL K Z S vs (kxs.map (·.2))
def ArR (H : Hp) : Arg → V → Prop
  | .fnv g, x => FnvR Z H g x
  | .val v, x => Rep K Z S v x
  | .brw vs, x => ∃ l xs, x = .ref l ∧ HL S H l (.lst xs) ∧ RepL K Z S vs xs
  | .brwd ks vs, x => ∃ l kxs, x = .ref l ∧ HD S H l (.dK kxs) ∧ kxs.map (·.1) = ks ∧ RepL K Z S vs (kxs.map (·.2))
end
def Slot.isOwn : Slot → Bool
  | .own _ => true | .ownd _ _ => true | _ => false
def Slot.isAddr : Slot → Bool
  | .val _ => false | .exn _ => false | .fnv _ => false | _ => true
def Frz : HO → Prop
  | .lst _ => True | .tup _ => True | .dK _ => True | .frz _ (.ext _) => False | .frz _ _ => True | _ => False
/-- a thing of the store that may change -/
def Mb : HO → Prop
  | .ins _ _ _ => True | .lst _ => True | .dK _ => True | _ => False
structure Wf (S : Gh) (H : Hp) : Prop where
  same : Same S.G H
  frz : ∀ a o, S.G a = some o → Frz o
  ins : ∀ a, S.mt a → ∃ o, H a = some o ∧ Mb o
  ng : ∀ a, S.mt a → S.G a = none
/-- an object of the store -/
inductive ObR (K : PySem.W.Frag) (Z : Stc) (S : Gh) (H : Hp) (i : Nat) (o : Ob) : Prop
  | ins (a dx : Addr) (fs : List (Str × V)) (hc : o.c < cL) (ha : S.rho[i]? = some a) (hd : i ∉ S.dd) (hh : H a = some (.ins (Z.cls o.c) dx fs)) (hf : FsR K Z S fs o.fs) : ObR K Z S H i o
  | lst (vs : List Val) (e : o = cellL vs) (a : Addr) (xs : List V) (ha : S.rho[i]? = some a) (hd : i ∉ S.dd) (hh : H a = some (.lst xs)) (hf : RepL K Z S vs xs) : ObR K Z S H i o
  | dic (ks : List Key) (vs : List Val) (e : o = cellD ks vs) (a : Addr) (kxs : List (Key × V)) (ha : S.rho[i]? = some a) (hd : i ∉ S.dd) (hh : H a = some (.dK kxs)) (hk : kxs.map (·.1) = ks) (hf : RepL K Z S vs (kxs.map (·.2))) : ObR K Z S H i o
  | no (e : o = cellX) (a : Addr) (ha : S.rho[i]? = some a) (hd : i ∈ S.dd) : ObR K Z S H i o
structure StR (K : PySem.W.Frag) (Z : Stc) (S : Gh) (H : Hp) (st : Store) : Prop where
  tab : NdefX.TabsN Z.T H
  len : st.length = S.rho.length
  nd : ∀ (i j : Nat) (a : Addr), S.rho[i]? = some a → S.rho[j]? = some a → i ∉ S.dd → j ∉ S.dd → i = j
  dl : ∀ i ∈ S.dd, i < S.rho.length
  ob : ∀ (i : Nat) (o : Ob), st[i]? = some o → ObR K Z S H i o
/-- what stays as it is: no object of the store that may change, no table -/
structure Kp (S : Gh) (a : Addr) (o : HO) : Prop where
  rho : ¬ S.mt a
  nt : ∀ ps, o ≠ .tbl ps
structure Ext (S : Gh) (H : Hp) (S' : Gh) (H' : Hp) : Prop where
  pre : ∃ m, S'.rho = S.rho ++ m
  sg : Same S.G S'.G
  fresh : ∀ a, S'.G a ≠ none → S.G a ≠ none ∨ H a = none
  frame : ∀ a o, H a = some o → Kp S a o → H' a = some o
  live : ∀ a, H a ≠ none → H' a ≠ none
  rfresh : ∀ a, S'.mt a → S.mt a ∨ H a = none
def OwnA (env : Evn) (σ : St) (a : Addr) : Prop := ∃ (i : Nat) (s : Slot), env[i]? = some (some s) ∧ s.isOwn = true ∧ σ[i]? = some (some (.ref a))
structure SR (K : PySem.W.Frag) (Z : Stc) (S : Gh) (σ : St) (H : Hp) (env : Evn) (st : Store) : Prop where
  wf : Wf S H
  str : StR K Z S H st
  len : env.length = σ.length
  sl : ∀ (i : Nat) s, env[i]? = some (some s) → ∃ x, σ[i]? = some (some x) ∧ SlR K Z S H s x
  sep : ∀ (i j : Nat) si sj l, i ≠ j → env[i]? = some (some si) → si.isOwn = true → env[j]? = some (some sj) → sj.isAddr = true → σ[i]? = some (some (.ref l)) → σ[j]? ≠ some (some (.ref l))
structure ExtS (S : Gh) (H : Hp) (env : Evn) (σ : St) (S' : Gh) (H' : Hp) (env' : Evn) (σ' : St) : Prop where
  pre : ∃ m, S'.rho = S.rho ++ m
  sg : Same S.G S'.G
  fresh : ∀ a, S'.G a ≠ none → S.G a ≠ none ∨ H a = none ∨ OwnA env σ a
  frame : ∀ a o, H a = some o → Kp S a o → ¬ OwnA env σ a → H' a = some o
  live : ∀ a, H a ≠ none → H' a ≠ none
  rfresh : ∀ a, S'.mt a → S.mt a ∨ H a = none
  own : ∀ a, OwnA env' σ' a → OwnA env σ a ∨ H a = none
  len : env'.length = env.length
  brw : ∀ (i : Nat) s, env'[i]? = some (some s) → s.isAddr = true → s.isOwn = false → env[i]? = some (some s) ∧ σ'[i]? = σ[i]?
structure ExtR (S : Gh) (H : Hp) (env : Evn) (σ : St) (S' : Gh) (H' : Hp) : Prop where
  pre : ∃ m, S'.rho = S.rho ++ m
  sg : Same S.G S'.G
  fresh : ∀ a, S'.G a ≠ none → S.G a ≠ none ∨ H a = none ∨ OwnA env σ a
  frame : ∀ a o, H a = some o → Kp S a o → ¬ OwnA env σ a → H' a = some o
  live : ∀ a, H a ≠ none → H' a ≠ none
  rfresh : ∀ a, S'.mt a → S.mt a ∨ H a = none
/-- a returned thing: own ones are new, or were the frame's own -/
def RRs (K : PySem.W.Frag) (Z : Stc) (env : Evn) (σ : St) (H0 : Hp) (S : Gh) (H : Hp) : R → V → Prop
  | .val v, x => Rep K Z S v x
  | .own vs, x => ∃ l xs, x = .ref l ∧ H l = some (.lst xs) ∧ Ng S l ∧ (H0 l = none ∨ OwnA env σ l) ∧ RepL K Z S vs xs
  | .ownd ks vs, x => ∃ l kxs, x = .ref l ∧ H l = some (.dK kxs) ∧ Ng S l ∧ (H0 l = none ∨ OwnA env σ l) ∧ kxs.map (·.1) = ks ∧ RepL K Z S vs (kxs.map (·.2))
/-- an exception: its class, its dict's fields -/
def XR (K : PySem.W.Frag) (Z : Stc) (S : Gh) (H : Hp) (c : Nat) (fs : List (Str × Val)) (cls : Value) (d : Option Addr) : Prop :=
  cls = .ref (Z.cls c) ∧ ((fs = [] ∧ d = none) ∨ ∃ dd xs, fs ≠ [] ∧ d = some dd ∧ H dd = some (.xd xs) ∧ FsR K Z S xs fs)

/-! ### tables and things that can be called stay -/
def Sy : HO → Prop
  | .tbl _ => True | .ext _ => True | .frz _ (.ext _) => True | .xd _ => True | _ => False
theorem tabs_sy {T : List NdefX.NTab} {H H' : Hp} (t : NdefX.TabsN T H) (k : ∀ b o, H b = some o → Sy o → H' b = some o) : NdefX.TabsN T H' := fun p hp => by
  obtain ⟨ps, h1, h2, h3⟩ := t p hp
  refine ⟨ps, k _ _ h1 trivial, h2, fun pos cv hc => ?_⟩
  obtain ⟨c, e1, e2⟩ := h3 pos cv hc
  exact ⟨c, e1, k _ _ e2 trivial⟩
theorem co_sy {u : HO} (h : CO u) : Sy u := by
  cases u with
  | frz o u => cases u <;> first | exact h | trivial
  | _ => first | exact h | trivial
theorem fnv_sy {Z : Stc} {H H' : Hp} {g : FV} {x : V} (h : FnvR Z H g x) (k : ∀ b o, H b = some o → Sy o → H' b = some o) : FnvR Z H' g x := by
  obtain ⟨f, B, e1, c, hb⟩ := h
  refine ⟨f, B, e1, c, fun p hp => ?_⟩
  obtain ⟨z, h2⟩ := hb p hp
  exact ⟨z, k _ _ h2 (co_sy z)⟩
theorem sy_upd {H : Hp} {D : Addr} {u o : HO} (hD : H D = some u) (n : ¬ Sy u) : ∀ b o', H b = some o' → Sy o' → upd H D o b = some o' := fun b o' h y => by
  have z : b ≠ D := fun z => by
    rw [z, hD] at h
    exact n (Option.some.inj h ▸ y)
  rw [upd_ne z]
  exact h
theorem ObR.to0 {K : PySem.W.Frag} {Z : Stc} {S S' : Gh} {H H' : Hp} {i : Nat} {o : Ob} (r : ObR K Z S H i o) (hp : ∀ a, S.rho[i]? = some a → S'.rho[i]? = some a) (hd : i ∈ S.dd ↔ i ∈ S'.dd)
    (hm : ∀ a u, S.rho[i]? = some a → i ∉ S.dd → H a = some u → H' a = some u) (hR : ∀ vs xs, RepL K Z S vs xs → RepL K Z S' vs xs) : ObR K Z S' H' i o := by
  rcases r with ⟨a, dx, fs, hc, ha, hd', hh, hf⟩ | ⟨vs, e, a, xs, ha, hd', hh, hf⟩ | ⟨ks, vs, e, a, kxs, ha, hd', hh, hk, hf⟩ | ⟨e, a, ha, hd'⟩
  · exact .ins a dx fs hc (hp a ha) (fun z => hd' (hd.mpr z)) (hm a _ ha hd' hh) ⟨hf.1, hR _ _ hf.2⟩
  · exact .lst vs e a xs (hp a ha) (fun z => hd' (hd.mpr z)) (hm a _ ha hd' hh) (hR _ _ hf)
  · exact .dic ks vs e a kxs (hp a ha) (fun z => hd' (hd.mpr z)) (hm a _ ha hd' hh) hk (hR _ _ hf)
  · exact .no e a (hp a ha) (hd.mp hd')
theorem ObR.to {K : PySem.W.Frag} {Z : Stc} {S S' : Gh} {H H' : Hp} {i : Nat} {o : Ob} (r : ObR K Z S H i o) (hp : ∀ a, S.rho[i]? = some a → S'.rho[i]? = some a) (hd : i ∈ S.dd ↔ i ∈ S'.dd)
    (hm : ∀ a u, S.rho[i]? = some a → i ∉ S.dd → H a = some u → H' a = some u) (_ : ∀ b u, H b = some u → Sy u → H' b = some u) (hR : ∀ vs xs, RepL K Z S vs xs → RepL K Z S' vs xs) : ObR K Z S' H' i o := r.to0 hp hd hm hR
theorem ObR.rho {K : PySem.W.Frag} {Z : Stc} {S : Gh} {H : Hp} {i : Nat} {o : Ob} (r : ObR K Z S H i o) : ∃ a, S.rho[i]? = some a := by
  rcases r with ⟨a, dx, fs, hc, ha, hd', hh, hf⟩ | ⟨vs, e, a, xs, ha, hd', hh, hf⟩ | ⟨ks, vs, e, a, kxs, ha, hd', hh, hk, hf⟩ | ⟨e, a, ha, hd'⟩ <;> exact ⟨a, ha⟩
theorem sy_new {H : Hp} {D : Addr} {o : HO} (hD : H D = none) : ∀ b o', H b = some o' → Sy o' → upd H D o b = some o' := fun b o' h _ => by
  rw [upd_ne (ne_of_none h hD)]
  exact h
theorem frz_sy {u : HO} (h : Frz u) : ¬ Sy u := by
  cases u with
  | frz o u => cases u <;> first | exact id | exact fun _ => h
  | _ => first | exact id | exact fun _ => h
/-! ### monotony -/
section
variable {K : PySem.W.Frag} {Z : Stc} {S S' S'' : Gh} {H H' H'' : Hp}
theorem sqT_mono {G G' : Hp} (h : Same G G') {a xs} (r : SqT K G a xs) : SqT K G' a xs := by
  rcases r with (r | ⟨o, r⟩) | r
  · exact .inl (.inl (h _ _ r))
  · exact .inl (.inr ⟨o, h _ _ r⟩)
  · exact .inr r
theorem sqL_at {a xs} (h : ∀ o, H a = some o → H' a = some o) (r : SqL K H a xs) : SqL K H' a xs := by
  rcases r with (r | ⟨o, r⟩) | r
  · exact .inl (.inl (h _ r))
  · exact .inl (.inr ⟨o, h _ r⟩)
  · exact .inr r
theorem pre_get {l l' : List Addr} (h : ∃ m, l' = l ++ m) {i : Nat} {a} (e : l[i]? = some a) : l'[i]? = some a := by
  obtain ⟨m, rfl⟩ := h
  rw [List.getElem?_append_left (List.getElem?_eq_some_iff.mp e).1]
  exact e
structure Mon (S S' : Gh) : Prop where
  pre : ∃ m, S'.rho = S.rho ++ m
  sg : Same S.G S'.G
mutual
theorem Rep.mono (m : Mon S S') : ∀ (v : Val) (x : V), Rep K Z S v x → Rep K Z S' v x
  | .non, _, h => by simpa only [Rep] using h
  | .bl _, _, h => by simpa only [Rep] using h
  | .int _, _, h => by simpa only [Rep] using h
  | .str _, _, h => by simpa only [Rep] using h
  | .tup vs, x, h => by
    simp only [Rep] at h ⊢
    obtain ⟨a, xs, e, q, r⟩ := h
    exact ⟨a, xs, e, sqT_mono m.sg q, RepL.mono m vs xs r⟩
  | .lst vs, x, h => by
    simp only [Rep] at h ⊢
    obtain ⟨a, xs, e, q, r⟩ := h
    exact ⟨a, xs, e, m.sg _ _ q, RepL.mono m vs xs r⟩
  | .slst vs, x, h => by
    simp only [Rep] at h ⊢
    obtain ⟨a, xs, e, q, r⟩ := h
    exact ⟨a, xs, e, sqL_at (m.sg a) q, RepL.mono m vs xs r⟩
  | .dic ks vs, x, h => by
    simp only [Rep] at h ⊢
    obtain ⟨a, xs, e, ⟨o, q⟩, k, r⟩ := h
    exact ⟨a, xs, e, ⟨o, m.sg _ _ q⟩, k, RepL.mono m vs _ r⟩
  | .obj i, x, h => by
    simp only [Rep] at h ⊢
    obtain ⟨a, e, r⟩ := h
    exact ⟨a, pre_get m.pre e, r⟩
  | .fn n, x, h => by simpa only [Rep] using h
theorem RepL.mono (m : Mon S S') : ∀ (vs : List Val) (xs : List V), RepL K Z S vs xs → RepL K Z S' vs xs
  | [], _, h => by simpa only [RepL] using h
  | v :: vs, xs, h => by
    simp only [RepL] at h ⊢
    obtain ⟨x, r, e, h1, h2⟩ := h
    exact ⟨x, r, e, Rep.mono m v x h1, RepL.mono m vs r h2⟩
end
theorem FsR.mono (m : Mon S S') {fs gs} (h : FsR K Z S fs gs) : FsR K Z S' fs gs := ⟨h.1, RepL.mono m _ _ h.2⟩
theorem Ext.mon (e : Ext S H S' H') : Mon S S' := ⟨e.pre, e.sg⟩
theorem ExtS.mon {env env' σ σ'} (e : ExtS S H env σ S' H' env' σ') : Mon S S' := ⟨e.pre, e.sg⟩
theorem Mon.refl (S : Gh) : Mon S S := ⟨⟨[], by simp⟩, Same.refl _⟩
theorem pre_trans {l l' l'' : List Addr} (a : ∃ m, l' = l ++ m) (b : ∃ m, l'' = l' ++ m) : ∃ m, l'' = l ++ m := by
  obtain ⟨m, rfl⟩ := a
  obtain ⟨n, rfl⟩ := b
  exact ⟨m ++ n, by rw [List.append_assoc]⟩
theorem Mon.trans (a : Mon S S') (b : Mon S' S'') : Mon S S'' := ⟨pre_trans a.pre b.pre, a.sg.trans b.sg⟩
theorem pre_sub {l l' : List Addr} (h : ∃ m, l' = l ++ m) {a} (e : a ∈ l) : a ∈ l' := by
  obtain ⟨m, rfl⟩ := h
  exact List.mem_append_left _ e
theorem none_of_live (h : ∀ a, H a ≠ none → H' a ≠ none) {a} (e : H' a = none) : H a = none := by
  cases q : H a with
  | none => rfl
  | some o => exact absurd e (h a (by rw [q]; simp))
theorem Ext.refl (S : Gh) (H : Hp) : Ext S H S H := ⟨⟨[], by simp⟩, Same.refl _, fun _ h => .inl h, fun _ _ h _ => h, fun _ h => h, fun _ h => .inl h⟩
theorem Ext.trans (a : Ext S H S' H') (b : Ext S' H' S'' H'') : Ext S H S'' H'' where
  pre := pre_trans a.pre b.pre
  sg := a.sg.trans b.sg
  fresh := fun x h => by
    rcases b.fresh x h with q | q
    · exact a.fresh x q
    · exact .inr (none_of_live a.live q)
  frame := fun x o h n => b.frame x o (a.frame x o h n) ⟨fun m => (by
    rcases a.rfresh x m with q | q
    · exact n.rho q
    · rw [h] at q; cases q), n.nt⟩
  live := fun x h => b.live x (a.live x h)
  rfresh := fun x h => by
    rcases b.rfresh x h with q | q
    · exact a.rfresh x q
    · exact .inr (none_of_live a.live q)
theorem ExtS.trans {env env' env'' σ σ' σ''} (a : ExtS S H env σ S' H' env' σ') (b : ExtS S' H' env' σ' S'' H'' env'' σ'') : ExtS S H env σ S'' H'' env'' σ'' where
  pre := pre_trans a.pre b.pre
  sg := a.sg.trans b.sg
  fresh := fun x h => by
    rcases b.fresh x h with q | q | q
    · exact a.fresh x q
    · exact .inr (.inl (none_of_live a.live q))
    · rcases a.own x q with z | z
      · exact .inr (.inr z)
      · exact .inr (.inl z)
  frame := fun x o h n n2 => b.frame x o (a.frame x o h n n2) ⟨fun m => (by
    rcases a.rfresh x m with q | q
    · exact n.rho q
    · rw [h] at q; cases q), n.nt⟩ fun m => by
    rcases a.own x m with q | q
    · exact n2 q
    · rw [h] at q; cases q
  live := fun x h => b.live x (a.live x h)
  rfresh := fun x h => by
    rcases b.rfresh x h with q | q
    · exact a.rfresh x q
    · exact .inr (none_of_live a.live q)
  own := fun x h => by
    rcases b.own x h with q | q
    · exact a.own x q
    · exact .inr (none_of_live a.live q)
  len := b.len.trans a.len
  brw := fun i s h1 h2 h3 => by
    obtain ⟨q1, q2⟩ := b.brw i s h1 h2 h3
    obtain ⟨r1, r2⟩ := a.brw i s q1 h2 h3
    exact ⟨r1, q2.trans r2⟩
theorem ExtS.transR {env env' σ σ'} (a : ExtS S H env σ S' H' env' σ') (b : ExtR S' H' env' σ' S'' H'') : ExtR S H env σ S'' H'' where
  pre := pre_trans a.pre b.pre
  sg := a.sg.trans b.sg
  fresh := fun x h => by
    rcases b.fresh x h with q | q | q
    · exact a.fresh x q
    · exact .inr (.inl (none_of_live a.live q))
    · rcases a.own x q with z | z
      · exact .inr (.inr z)
      · exact .inr (.inl z)
  frame := fun x o h n n2 => b.frame x o (a.frame x o h n n2) ⟨fun m => (by
    rcases a.rfresh x m with q | q
    · exact n.rho q
    · rw [h] at q; cases q), n.nt⟩ fun m => by
    rcases a.own x m with q | q
    · exact n2 q
    · rw [h] at q; cases q
  live := fun x h => b.live x (a.live x h)
  rfresh := fun x h => by
    rcases b.rfresh x h with q | q
    · exact a.rfresh x q
    · exact .inr (none_of_live a.live q)
theorem Ext.toS (e : Ext S H S' H') (env : Evn) (σ : St) : ExtS S H env σ S' H' env σ :=
  ⟨e.pre, e.sg, fun a h => (e.fresh a h).elim .inl fun z => .inr (.inl z), fun a o h n _ => e.frame a o h n, e.live, e.rfresh, fun _ h => .inl h, rfl, fun _ _ h _ _ => ⟨h, rfl⟩⟩
theorem Ext.toR (e : Ext S H S' H') (env : Evn) (σ : St) : ExtR S H env σ S' H' :=
  ⟨e.pre, e.sg, fun a h => (e.fresh a h).elim .inl fun z => .inr (.inl z), fun a o h n _ => e.frame a o h n, e.live, e.rfresh⟩
theorem ExtS.refl (S : Gh) (H : Hp) (env : Evn) (σ : St) : ExtS S H env σ S H env σ := (Ext.refl S H).toS env σ

theorem kp_of {a : Addr} {o : HO} (n : ¬ S.mt a) (n2 : ∀ ps, o ≠ .tbl ps := by intro _ z; cases z) : Kp S a o := ⟨n, n2⟩
theorem not_mt (w : Wf S H) {a o} (h : H a = some o) (n : ¬ Mb o) : ¬ S.mt a := fun m => by
  obtain ⟨u, e, k⟩ := w.ins a m
  rw [h] at e; cases e
  exact n k
theorem not_rho (w : Wf S H) {a o} (h : H a = some o) (n : ¬ Mb o) (n2 : ∀ ps, o ≠ .tbl ps := by intro _ z; cases z) : Kp S a o := ⟨not_mt w h n, n2⟩
/-- what is frozen is none of the store's -/
theorem g_mt (w : Wf S H) {a} (h : S.G a ≠ none) : ¬ S.mt a := fun m => h (w.ng a m)
theorem Ext.mt (e : Ext S H S' H') {a o} (h : H a = some o) (n : ¬ S.mt a) : ¬ S'.mt a := fun m => by
  rcases e.rfresh a m with q | q
  · exact n q
  · rw [h] at q; cases q
theorem co_mb {u : HO} (h : CO u) : ¬ Mb u := by
  cases u with
  | frz o u => exact id
  | _ => first | exact fun _ => h | exact id
theorem co_tbl {u : HO} (h : CO u) : ∀ ps, u ≠ .tbl ps := fun _ y => by rw [y] at h; exact h
theorem FnvR.ext (w : Wf S H) (e : Ext S H S' H') {g x} (h : FnvR Z H g x) : FnvR Z H' g x := by
  obtain ⟨f, B, e1, c, hb⟩ := h
  refine ⟨f, B, e1, c, fun p hp => ?_⟩
  obtain ⟨z, h2⟩ := hb p hp
  exact ⟨z, e.frame _ _ h2 (not_rho w h2 (co_mb z) (co_tbl z))⟩
theorem sqL_ext (w : Wf S H) (e : Ext S H S' H') {a xs} (n : ¬ S.mt a) (r : SqL K H a xs) : SqL K H' a xs := by
  rcases r with (r | ⟨o, r⟩) | r
  · exact .inl (.inl (e.frame _ _ r (kp_of n)))
  · exact .inl (.inr ⟨o, e.frame _ _ r (kp_of n)⟩)
  · exact .inr r
theorem HL.ext (e : Ext S H S' H') {a xs} (h : HL S H a (.lst xs)) : HL S' H' a (.lst xs) := ⟨e.frame _ _ h.h (kp_of h.m), e.mt h.h h.m⟩
theorem HD.ext (e : Ext S H S' H') {a xs} (h : HD S H a (.dK xs)) : HD S' H' a (.dK xs) := by
  obtain ⟨q, m⟩ := h
  rcases q with q | ⟨o, q⟩
  · exact ⟨.inl (e.frame _ _ q (kp_of m)), e.mt q m⟩
  · exact ⟨.inr ⟨o, e.frame _ _ q (kp_of m)⟩, e.mt q m⟩
theorem HK.ext (e : Ext S H S' H') {a u} (h : HK S H a u) : HK S' H' a u := by
  obtain ⟨⟨o, q⟩, m⟩ := h
  exact ⟨⟨o, e.frame _ _ q (kp_of m)⟩, e.mt q m⟩
theorem Ng.ext (e : Ext S H S' H') {a o} (h : H a = some o) (g : Ng S a) : Ng S' a := by
  refine ⟨?_, e.mt h g.m⟩
  cases q : S'.G a with
  | none => rfl
  | some u =>
    rcases e.fresh a (by rw [q]; simp) with z | z
    · exact absurd g.g z
    · rw [h] at z; cases z
theorem PRepS.ext (w : Wf S H) (e : Ext S H S' H') {v x} (h : PRepS K Z S H v x) : PRepS K Z S' H' v x := by
  obtain ⟨h, n⟩ := h
  cases v with
  | lst vs =>
    obtain ⟨a, xs, rfl, q, r⟩ := h
    have k := HL.ext e ⟨q, n a rfl⟩
    exact ⟨⟨a, xs, rfl, k.h, RepL.mono e.mon _ _ r⟩, fun b z => by cases z; exact k.m⟩
  | dic ks vs =>
    obtain ⟨a, xs, rfl, q, k, r⟩ := h
    have q := HD.ext e ⟨q, n a rfl⟩
    exact ⟨⟨a, xs, rfl, q.h, k, RepL.mono e.mon _ _ r⟩, fun b z => by cases z; exact q.m⟩
  | non => exact ⟨Rep.mono e.mon _ _ h, trivial⟩
  | bl b => exact ⟨Rep.mono e.mon _ _ h, trivial⟩
  | int i => exact ⟨Rep.mono e.mon _ _ h, trivial⟩
  | str i => exact ⟨Rep.mono e.mon _ _ h, trivial⟩
  | tup i => exact ⟨Rep.mono e.mon _ _ h, trivial⟩
  | obj i => exact ⟨Rep.mono e.mon _ _ h, trivial⟩
  | fn i => exact ⟨Rep.mono e.mon _ _ h, trivial⟩
  | slst i => exact ⟨Rep.mono e.mon _ _ h, trivial⟩
theorem Rep.peek (w : Wf S H) {v x} (h : Rep K Z S v x) : PRepS K Z S H v x := by
  cases v with
  | lst vs =>
    simp only [Rep] at h
    obtain ⟨a, xs, rfl, q, r⟩ := h
    exact ⟨⟨a, xs, rfl, w.same _ _ q, r⟩, fun b z => by cases z; exact g_mt w (by rw [q]; simp)⟩
  | dic ks vs =>
    simp only [Rep] at h
    obtain ⟨a, xs, rfl, ⟨o, q⟩, k, r⟩ := h
    exact ⟨⟨a, xs, rfl, .inr ⟨o, w.same _ _ q⟩, k, r⟩, fun b z => by cases z; exact g_mt w (by rw [q]; simp)⟩
  | non => exact ⟨h, trivial⟩
  | bl b => exact ⟨h, trivial⟩
  | int i => exact ⟨h, trivial⟩
  | str i => exact ⟨h, trivial⟩
  | tup i => exact ⟨h, trivial⟩
  | obj i => exact ⟨h, trivial⟩
  | fn i => exact ⟨h, trivial⟩
  | slst i => exact ⟨h, trivial⟩
theorem RR.peek (w : Wf S H) {H0 r x} (h : RR K Z S H0 H r x) : PRepS K Z S H r.v x := by
  cases r with
  | val v => exact Rep.peek w h
  | own vs =>
    obtain ⟨l, xs, rfl, q, g, _, r⟩ := h
    exact ⟨⟨l, xs, rfl, q, r⟩, fun b z => by cases z; exact g.m⟩
  | ownd ks vs =>
    obtain ⟨l, xs, rfl, q, g, _, k, r⟩ := h
    exact ⟨⟨l, xs, rfl, .inl q, k, r⟩, fun b z => by cases z; exact g.m⟩
theorem SlR.peek (w : Wf S H) {s x} (h : SlR K Z S H s x) (hn : ∀ c, s ≠ .exn c) (hf : ∀ g, s ≠ .fnv g) : PRepS K Z S H (match s with | .val v => v | .own vs => .lst vs | .brw vs => .lst vs | .ownd ks vs => .dic ks vs | .brwd ks vs => .dic ks vs | .lkd ks vs => .dic ks vs | .exn _ => .non | .fnv _ => .non) x := by
  cases s with
  | fnv g => exact absurd rfl (hf g)
  | val v => exact Rep.peek w h
  | exn c => exact absurd rfl (hn c)
  | own vs =>
    obtain ⟨l, xs, rfl, q, g, r⟩ := h
    exact ⟨⟨l, xs, rfl, q, r⟩, fun b z => by cases z; exact g.m⟩
  | brw vs =>
    obtain ⟨l, xs, rfl, q, r⟩ := h
    exact ⟨⟨l, xs, rfl, q.h, r⟩, fun b z => by cases z; exact q.m⟩
  | ownd ks vs =>
    obtain ⟨l, xs, rfl, q, g, k, r⟩ := h
    exact ⟨⟨l, xs, rfl, .inl q, k, r⟩, fun b z => by cases z; exact g.m⟩
  | brwd ks vs =>
    obtain ⟨l, xs, rfl, q, k, r⟩ := h
    exact ⟨⟨l, xs, rfl, q.h, k, r⟩, fun b z => by cases z; exact q.m⟩
  | lkd ks vs =>
    obtain ⟨l, xs, rfl, q, k, r⟩ := h
    exact ⟨⟨l, xs, rfl, .inr q.h, k, r⟩, fun b z => by cases z; exact q.m⟩
/-- the slots stay while an expression runs -/
theorem SR.ext {σ env st st'} (r : SR K Z S σ H env st) (e : Ext S H S' H') (w : Wf S' H') (s : StR K Z S' H' st') : SR K Z S' σ H' env st' := by
  refine ⟨w, s, r.len, fun i t h => ?_, r.sep⟩
  obtain ⟨x, h1, h2⟩ := r.sl i t h
  refine ⟨x, h1, ?_⟩
  cases t with
  | val v => exact Rep.mono e.mon _ _ h2
  | exn c => exact h2
  | fnv g => exact FnvR.ext r.wf e h2
  | own vs =>
    obtain ⟨l, xs, e1, q, g, r1⟩ := h2
    exact ⟨l, xs, e1, e.frame _ _ q (kp_of g.m), g.ext e q, RepL.mono e.mon _ _ r1⟩
  | brw vs =>
    obtain ⟨l, xs, e1, q, r1⟩ := h2
    exact ⟨l, xs, e1, q.ext e, RepL.mono e.mon _ _ r1⟩
  | ownd ks vs =>
    obtain ⟨l, xs, e1, q, g, k, r1⟩ := h2
    exact ⟨l, xs, e1, e.frame _ _ q (kp_of g.m), g.ext e q, k, RepL.mono e.mon _ _ r1⟩
  | brwd ks vs =>
    obtain ⟨l, xs, e1, q, k, r1⟩ := h2
    exact ⟨l, xs, e1, q.ext e, k, RepL.mono e.mon _ _ r1⟩
  | lkd ks vs =>
    obtain ⟨l, xs, e1, q, k, r1⟩ := h2
    exact ⟨l, xs, e1, q.ext e, k, RepL.mono e.mon _ _ r1⟩
theorem RR.back {H0 H1 r x} (h : RR K Z S H1 H r x) (l : ∀ a, H0 a ≠ none → H1 a ≠ none) : RR K Z S H0 H r x := by
  cases r with
  | val v => exact h
  | own vs =>
    obtain ⟨a, xs, e, q, g, n, r⟩ := h
    exact ⟨a, xs, e, q, g, none_of_live l n, r⟩
  | ownd ks vs =>
    obtain ⟨a, xs, e, q, g, n, k, r⟩ := h
    exact ⟨a, xs, e, q, g, none_of_live l n, k, r⟩
theorem SR.wf' {σ env st} (r : SR K Z S σ H env st) : Wf S H := r.wf
end
end Eg

namespace Eg
open PySem L2
/-! ### judgements -/
section
variable (K : PySem.W.Frag) (Z : Stc)
def Post {α β : Type} (S : Gh) (H : Hp) (RP : Gh → Hp → α → β → Prop) (Q : β → Hp → Prop) (W : Value → Option Addr → Hp → Prop) : Out α → Prop
  | .ok a st' => ∀ y S' H', Ext S H S' H' → Wf S' H' → StR K Z S' H' st' → RP S' H' a y → Q y H'
  | .exc c fs st' => ∀ cls d S' H', Ext S H S' H' → Wf S' H' → StR K Z S' H' st' → XR K Z S' H' c fs cls d → W cls d H'
  | .bad => False
abbrev CT (β : Type) := St → Hp → (β → Hp → Prop) → Prop
def Snd {α β : Type} (W : WX) (RP : Hp → Gh → Hp → α → β → Prop) (t : CT β) (d : Evn → Store → Out α) : Prop :=
  ∀ S σ H env st Q, SR K Z S σ H env st → Post K Z S H (RP H) Q (fun c dd H' => W c dd σ H') (d env st) → t σ H Q
def rpE : Hp → Gh → Hp → R → V → Prop := fun H0 S H r x => RR K Z S H0 H r x
def rpP : Hp → Gh → Hp → Val → V → Prop := fun _ S H v x => PRepS K Z S H v x
def rpT : Hp → Gh → Hp → Bool → Bool → Prop := fun _ _ _ b c => b = c
def ArsR (S : Gh) (H : Hp) : List Arg → List V → Prop
  | [], xs => xs = []
  | a :: as, xs => ∃ x r, xs = x :: r ∧ ArR K Z S H a x ∧ ArsR S H as r
def rpA : Hp → Gh → Hp → List Arg → List V → Prop := fun _ S H as xs => ArsR K Z S H as xs
end
def ME (Z : Stc) (X : Cx) (W : WX) (e : Expr) (d : DE) : Prop := ∃ t, PE X e t ∧ Snd X.K Z W (rpE X.K Z) t d
def MP (Z : Stc) (X : Cx) (W : WX) (e : Expr) (d : DP) : Prop := ∃ t, PE X e t ∧ Snd X.K Z W (rpP X.K Z) t d
def MT (Z : Stc) (X : Cx) (W : WX) (e : Expr) (d : DT) : Prop := ∃ t, PT X e t ∧ Snd X.K Z W rpT t d
def MW (Z : Stc) (X : Cx) (W : WX) (e : Expr) (d : DT) : Prop := ∃ t, PW X e t ∧ Snd X.K Z W rpT t d
def MA (Z : Stc) (X : Cx) (W : WX) (es : List Expr) (d : DA) : Prop := ∃ t, PA X es t ∧ Snd X.K Z W (rpA X.K Z) t d

section
variable {K : PySem.W.Frag} {Z : Stc} {S S' S1 : Gh} {H H' H1 : Hp} {W : WX}
/-- one thing behind another -/
theorem snd_bind {α β γ δ : Type} {RPa : Hp → Gh → Hp → α → β → Prop} {RPb : Hp → Gh → Hp → γ → δ → Prop} {ta : CT β} {da : Evn → Store → Out α} {tb : β → CT δ} {db : α → Evn → Store → Out γ}
    (ha : Snd K Z W RPa ta da)
    (hb : ∀ S σ H env st Q a y S1 H1 st1, SR K Z S σ H env st → Ext S H S1 H1 → SR K Z S1 σ H1 env st1 → RPa H S1 H1 a y → Post K Z S1 H1 (RPb H) Q (fun c dd H' => W c dd σ H') (db a env st1) → tb y σ H1 Q) :
    Snd K Z W RPb (fun σ H Q => ta σ H fun y H1 => tb y σ H1 Q) (fun env st => (da env st).bind fun a st1 => db a env st1) := by
  intro S σ H env st Q r p
  refine ha S σ H env st _ r ?_
  cases e : da env st with
  | bad => simp only [e, Out.bind, Post] at p
  | exc c fs st1 =>
    simp only [e, Out.bind] at p
    exact p
  | ok a st1 =>
    simp only [e, Out.bind] at p
    intro y S1 H1 e1 w1 s1 q1
    refine hb S σ H env st Q a y S1 H1 st1 r e1 (r.ext e1 w1 s1) q1 ?_
    cases e2 : db a env st1 with
    | bad => simp only [e2, Post] at p
    | exc c fs st2 =>
      simp only [e2, Post] at p ⊢
      exact fun cls d S' H' e3 w3 s3 x3 => p cls d S' H' (e1.trans e3) w3 s3 x3
    | ok b st2 =>
      simp only [e2, Post] at p ⊢
      exact fun y' S' H' e3 w3 s3 x3 => p y' S' H' (e1.trans e3) w3 s3 x3
theorem Post.imp {α β : Type} {RP RP' : Gh → Hp → α → β → Prop} {Q : β → Hp → Prop} {W : Value → Option Addr → Hp → Prop} {o : Out α} (p : Post K Z S H RP Q W o)
    (h : ∀ a y S' H', Ext S H S' H' → Wf S' H' → RP' S' H' a y → RP S' H' a y) : Post K Z S H RP' Q W o := by
  cases o with
  | bad => exact p
  | exc c fs st1 => exact p
  | ok a st1 => exact fun y S' H' e w s q => p y S' H' e w s (h a y S' H' e w q)
theorem me_mp {X : Cx} {e : Expr} {d : DE} (h : ME Z X W e d) : MP Z X W e (fun env st => (d env st).bind fun r st => .ok r.v st) := by
  obtain ⟨t, h1, h2⟩ := h
  refine ⟨t, h1, fun S σ H env st Q r p => h2 S σ H env st Q r ?_⟩
  cases e : d env st with
  | bad => simp only [e, Out.bind, Post] at p
  | exc c fs st1 =>
    simp only [e, Out.bind, Post] at p ⊢
    exact p
  | ok a st1 =>
    simp only [e, Out.bind, Post] at p ⊢
    exact fun y S' H' e w s q => p y S' H' e w s (RR.peek w q)

/-- an extension by new things alone -/
structure ExtP (S : Gh) (H : Hp) (S' : Gh) (H' : Hp) : Prop where
  rho : S'.rho = S.rho
  dd : S'.dd = S.dd
  sg : Same S.G S'.G
  fresh : ∀ a, S'.G a ≠ none → S.G a ≠ none ∨ H a = none
  same : Same H H'
  wf : Wf S' H'
theorem mt_of {S S' : Gh} (e : S'.rho = S.rho) (d : S'.dd = S.dd) {a} : S'.mt a ↔ S.mt a := by unfold Gh.mt; rw [e, d]
theorem ExtP.ext (e : ExtP S H S' H') : Ext S H S' H' :=
  ⟨⟨[], by rw [e.rho]; simp⟩, e.sg, e.fresh, fun a o h _ => e.same a o h, fun a h => by
    cases q : H a with
    | none => exact absurd q h
    | some o => rw [e.same a o q]; simp, fun a h => .inl ((mt_of e.rho e.dd).mp h)⟩
theorem StR.extP {st} (s : StR K Z S H st) (e : ExtP S H S' H') : StR K Z S' H' st :=
  ⟨tabs_sy s.tab fun b o h _ => e.same b o h, by rw [e.rho]; exact s.len, by rw [e.rho, e.dd]; exact s.nd, by rw [e.rho, e.dd]; exact s.dl, fun i o h =>
    (s.ob i o h).to (fun a q => by rw [e.rho]; exact q) (by rw [e.dd]) (fun a u _ _ q => e.same a u q) (fun b u q _ => e.same b u q) fun vs xs q => RepL.mono e.ext.mon vs xs q⟩
theorem ExtP.refl (w : Wf S H) : ExtP S H S H := ⟨rfl, rfl, Same.refl _, fun _ h => .inl h, Same.refl _, w⟩
/-- a new object, not frozen yet -/
theorem ExtP.new (w : Wf S H) {p o} (h : H p = none) : ExtP S H S (upd H p o) := by
  refine ⟨rfl, rfl, Same.refl _, fun _ h => .inl h, same_upd' h, fun a u e => ?_, w.frz, fun a m => ?_, w.ng⟩
  · exact same_upd' h _ _ (w.same _ _ e)
  · obtain ⟨u, e, k⟩ := w.ins a m
    exact ⟨u, same_upd' h _ _ e, k⟩
where
  same_upd' {H : Hp} {p : Addr} {o : HO} (h : H p = none) : Same H (upd H p o) := fun b x e => by
    rw [upd_ne (ne_of_none e h)]
    exact e
theorem same_new {H : Hp} {p : Addr} {o : HO} (h : H p = none) : Same H (upd H p o) := fun b x e => by
  rw [upd_ne (ne_of_none e h)]
  exact e
/-- a new object, frozen at once -/
def Gh.add (S : Gh) (p : Addr) (o : HO) : Gh := ⟨S.rho, upd S.G p o, S.dd⟩
theorem mt_add {S : Gh} {p : Addr} {o : HO} {a} : (S.add p o).mt a ↔ S.mt a := Iff.rfl
theorem ng_none (w : Wf S H) {p} (h : H p = none) : Ng S p := by
  refine ⟨?_, fun m => ?_⟩
  · cases q : S.G p with
    | none => rfl
    | some u => rw [w.same _ _ q] at h; cases h
  · obtain ⟨u, e, k⟩ := w.ins p m
    rw [h] at e; cases e
theorem ExtP.newF (w : Wf S H) {p o} (h : H p = none) (f : Frz o) : ExtP S H (S.add p o) (upd H p o) := by
  have n := ng_none w h
  refine ⟨rfl, rfl, same_new n.g, fun a q => ?_, same_new h, fun a u e => ?_, fun a u e => ?_, fun a m => ?_, fun a m => ?_⟩
  · by_cases z : a = p
    · rw [z]; exact .inr h
    · have q' : upd S.G p o a ≠ none := q
      rw [upd_ne z] at q'
      exact .inl q'
  · have e' : upd S.G p o a = some u := e
    by_cases z : a = p
    · subst z
      rw [upd_same] at e'
      cases e'
      exact upd_same
    · rw [upd_ne z] at e'
      rw [upd_ne z]
      exact w.same _ _ e'
  · have e' : upd S.G p o a = some u := e
    by_cases z : a = p
    · subst z
      rw [upd_same] at e'
      cases e'
      exact f
    · rw [upd_ne z] at e'
      exact w.frz _ _ e'
  · obtain ⟨u, e, k⟩ := w.ins a m
    exact ⟨u, same_new h _ _ e, k⟩
  · have z : a ≠ p := fun z => n.m (z ▸ m)
    show upd S.G p o a = none
    rw [upd_ne z]
    exact w.ng a m
theorem ExtP.trans (a : ExtP S H S1 H1) (b : ExtP S1 H1 S' H') : ExtP S H S' H' :=
  ⟨b.rho.trans a.rho, b.dd.trans a.dd, a.sg.trans b.sg, fun x h => by
    rcases b.fresh x h with q | q
    · exact a.fresh x q
    · exact .inr (none_of_live a.ext.live q), a.same.trans b.same, b.wf⟩
/-- freezing an own thing that is in H -/
theorem wf_freeze (w : Wf S H) {p o} (h : H p = some o) (f : Frz o) (g : Ng S p) : Wf (S.add p o) H := by
  refine ⟨fun a u e => ?_, fun a u e => ?_, w.ins, fun a m => ?_⟩
  · have e' : upd S.G p o a = some u := e
    by_cases z : a = p
    · subst z
      rw [upd_same] at e'
      cases e'
      exact h
    · rw [upd_ne z] at e'
      exact w.same _ _ e'
  · have e' : upd S.G p o a = some u := e
    by_cases z : a = p
    · subst z
      rw [upd_same] at e'
      cases e'
      exact f
    · rw [upd_ne z] at e'
      exact w.frz _ _ e'
  · have z : a ≠ p := fun z => g.m (z ▸ m)
    show upd S.G p o a = none
    rw [upd_ne z]
    exact w.ng a m
theorem mon_add {p o} (g : S.G p = none) : Mon S (S.add p o) := ⟨⟨[], by show S.rho = _; simp⟩, same_new g⟩

/-! ### operators on values -/
def rG (K : PySem.W.Frag) (Z : Stc) (g : Val → Val → Option R) : R2 := fun x y H Q => ∃ S v w r, Wf S H ∧ PRep K Z S H v x ∧ PRep K Z S H w y ∧ g v w = some r ∧
  ∀ x' S' H', ExtP S H S' H' → RR K Z S' H H' r x' → Q x' H'
def OpS (Z : Stc) (X : Cx) (f : Value → Value → Sem Value) (g : Val → Val → Option R) : Prop := OpR X f (rG X.K Z g)
def fromO {α : Type} (o : Option α) (st : Store) : Out α := match o with | some a => .ok a st | none => .bad
@[simp] def dOp (g : Val → Val → Option R) (a b : DP) : DE := fun env st => (a env st).bind fun v st => (b env st).bind fun w st => fromO (g v w) st
theorem snd_op {ta tb : TE} {da db : DP} {g : Val → Val → Option R} (ha : Snd K Z W (rpP K Z) ta da) (hb : Snd K Z W (rpP K Z) tb db) : Snd K Z W (rpE K Z) (tOp (rG K Z g) ta tb) (dOp g da db) := by
  refine snd_bind (RPb := rpE K Z) (tb := fun x σ H Q => tb σ H fun y H2 => rG K Z g x y H2 Q) (db := fun v env st => (db env st).bind fun w st => fromO (g v w) st) ha ?_
  intro S σ H env st Q v x S1 H1 st1 r e1 r1 p1 po
  refine hb S1 σ H1 env st1 _ r1 ?_
  cases e : db env st1 with
  | bad => simp only [e, Out.bind, Post] at po
  | exc c fs st2 =>
    simp only [e, Out.bind, Post] at po ⊢
    exact po
  | ok w st2 =>
    simp only [e, Out.bind, Post] at po ⊢
    intro y S2 H2 e2 w2 s2 p2
    cases eg : g v w with
    | none => simp only [eg, fromO, Post] at po
    | some res =>
      simp only [eg, fromO, Post] at po
      refine ⟨S2, v, w, res, w2, (PRepS.ext r1.wf e2 p1).p, p2.p, eg, fun x' S' H' e3 rr => ?_⟩
      exact po x' S' H' (e2.trans e3.ext) e3.wf (s2.extP e3) (rr.back fun a h => e2.live a (e1.live a h))
end
section
variable {Z : Stc} {X : Cx} {W : WX}
theorem me_bin {op : Operator} {g : Val → Val → Option R} {a b : Expr} {da db : DP} {pos : Pos} (ho : OpS Z X (binaryOp op) g) (ha : MP Z X W a da) (hb : MP Z X W b db) : ME Z X W (.BinOp a op b pos) (dOp g da db) := by
  obtain ⟨ta, h1, h2⟩ := ha
  obtain ⟨tb, h3, h4⟩ := hb
  exact ⟨_, pe_op ho h1 h3, snd_op h2 h4⟩
theorem me_cmp {op : CmpOp} {g : Val → Val → Option R} {a b : Expr} {da db : DP} {pos : Pos} (ho : OpS Z X (compareOp op) g) (ha : MP Z X W a da) (hb : MP Z X W b db) (hm : behindInMarks op b = false) : ME Z X W (.Compare a [op] [b] pos) (dOp g da db) := by
  obtain ⟨ta, h1, h2⟩ := ha
  obtain ⟨tb, h3, h4⟩ := hb
  exact ⟨_, pe_cmpR ho h1 h3 hm, snd_op h2 h4⟩
/-! ### names and constants -/
@[simp] def dVar (i : Nat) : DP := fun env st => match env[i]? with
  | some (some (.val v)) => .ok v st | some (some (.own vs)) => .ok (.lst vs) st | some (some (.brw vs)) => .ok (.lst vs) st
  | some (some (.ownd ks vs)) => .ok (.dic ks vs) st | some (some (.brwd ks vs)) => .ok (.dic ks vs) st | some (some (.lkd ks vs)) => .ok (.dic ks vs) st | _ => .bad
theorem snd_var {K : PySem.W.Frag} (i : Nat) : Snd K Z W (rpP K Z) (tVar i) (dVar i) := by
  intro S σ H env st Q r p
  unfold dVar at p
  cases e : env[i]? with
  | none => simp only [e, Post] at p
  | some o =>
    cases o with
    | none => simp only [e, Post] at p
    | some s =>
      obtain ⟨x, h1, h2⟩ := r.sl i s e
      refine ⟨x, h1, ?_⟩
      cases s with
      | exn c => simp only [e, Post] at p
      | fnv g => simp only [e, Post] at p
      | val v => simp only [e, Post] at p; exact p x S H (Ext.refl S H) r.wf r.str (SlR.peek r.wf h2 (fun _ z => by cases z) fun _ z => by cases z)
      | own v => simp only [e, Post] at p; exact p x S H (Ext.refl S H) r.wf r.str (SlR.peek r.wf h2 (fun _ z => by cases z) fun _ z => by cases z)
      | brw v => simp only [e, Post] at p; exact p x S H (Ext.refl S H) r.wf r.str (SlR.peek r.wf h2 (fun _ z => by cases z) fun _ z => by cases z)
      | ownd k v => simp only [e, Post] at p; exact p x S H (Ext.refl S H) r.wf r.str (SlR.peek r.wf h2 (fun _ z => by cases z) fun _ z => by cases z)
      | brwd k v => simp only [e, Post] at p; exact p x S H (Ext.refl S H) r.wf r.str (SlR.peek r.wf h2 (fun _ z => by cases z) fun _ z => by cases z)
      | lkd k v => simp only [e, Post] at p; exact p x S H (Ext.refl S H) r.wf r.str (SlR.peek r.wf h2 (fun _ z => by cases z) fun _ z => by cases z)
theorem mp_var {x : Str} {pos : Pos} (i : Nat) (h : PE X (.Name x pos) (tVar i)) : MP Z X W (.Name x pos) (dVar i) := ⟨_, h, snd_var i⟩
/-- a name whose value goes on: no own list -/
@[simp] def dVarF (i : Nat) : DE := fun env st => match env[i]? with
  | some (some (.val v)) => .ok (.val v) st | _ => .bad
theorem me_var {x : Str} {pos : Pos} (i : Nat) (h : PE X (.Name x pos) (tVar i)) : ME Z X W (.Name x pos) (dVarF i) := by
  refine ⟨_, h, fun S σ H env st Q r p => ?_⟩
  unfold dVarF at p
  cases e : env[i]? with
  | none => simp only [e, Post] at p
  | some o =>
    cases o with
    | none => simp only [e, Post] at p
    | some s =>
      obtain ⟨x, h1, h2⟩ := r.sl i s e
      refine ⟨x, h1, ?_⟩
      cases s with
      | val v =>
        simp only [e, Post] at p
        exact p x S H (Ext.refl S H) r.wf r.str h2
      | exn c => simp only [e, Post] at p
      | fnv g => simp only [e, Post] at p
      | own vs => simp only [e, Post] at p
      | brw vs => simp only [e, Post] at p
      | ownd ks vs => simp only [e, Post] at p
      | brwd ks vs => simp only [e, Post] at p
      | lkd ks vs => simp only [e, Post] at p
@[simp] def dC (v : Val) : DE := fun _ st => .ok (.val v) st
theorem me_const {e : Expr} {v : Val} {x : V} (h : PE X e (tC x)) (hr : ∀ S, Rep X.K Z S v x) : ME Z X W e (dC v) :=
  ⟨_, h, fun S σ H env st Q r p => p x S H (Ext.refl S H) r.wf r.str (hr S)⟩
theorem me_int {i j pos} : ME Z X W (.Constant (.int i) j pos) (dC (.int i)) := me_const pe_int fun _ => by simp only [Rep]
theorem me_bl {b j pos} : ME Z X W (.Constant (.bool b) j pos) (dC (.bl b)) := me_const pe_bl fun _ => by simp only [Rep]
theorem me_non {j pos} : ME Z X W (.Constant .none j pos) (dC .non) := me_const pe_non fun _ => by simp only [Rep]
theorem me_str {x j pos} : ME Z X W (.Constant (.str x) j pos) (dC (.str x)) := me_const pe_str fun _ => by simp only [Rep]

/-! ### tests -/
@[simp] def dTB (d : DE) : DT := fun env st => (d env st).bind fun r st => match r with | .val (.bl b) => .ok b st | _ => .bad
theorem snd_tb {K : PySem.W.Frag} {te : TE} {d : DE} (h : Snd K Z W (rpE K Z) te d) : Snd K Z W rpT (tB te) (dTB d) := by
  refine snd_bind (RPb := rpT) (tb := fun x σ H Q => ∃ c, x = .bl c ∧ Q c H) (db := fun r env st => match r with | .val (.bl b) => .ok b st | _ => .bad) h ?_
  intro S σ H env st Q v x S1 H1 st1 r e1 r1 p1 po
  cases v with
  | val v =>
    cases v with
    | bl b =>
      have p1' : x = V.bl b := by simpa only [rpE, RR, Rep] using p1
      exact ⟨b, p1', po b S1 H1 (Ext.refl _ _) r1.wf r1.str rfl⟩
    | _ => exact po.elim
  | own vs => exact po.elim
  | ownd ks vs => exact po.elim
theorem mt_val {e : Expr} {d : DE} (h : ME Z X W e d) (he : ∀ whole, isTrue e X.env whole = (do let v ← whole; standAt e.pos; holding [v] (truthy v)) := by intro _; rfl) : MT Z X W e (dTB d) := by
  obtain ⟨t, h1, h2⟩ := h
  exact ⟨_, pt_val h1 he, snd_tb h2⟩
theorem mt_cmp {op : CmpOp} {g : Val → Val → Option R} {a b : Expr} {da db : DP} {pos : Pos} (ho : OpS Z X (compareOp op) g) (ha : MP Z X W a da) (hb : MP Z X W b db) (hm : behindInMarks op b = false) : MT Z X W (.Compare a [op] [b] pos) (dTB (dOp g da db)) := by
  obtain ⟨ta, h1, h2⟩ := ha
  obtain ⟨tb, h3, h4⟩ := hb
  refine ⟨_, pt_cmpR ho h1 h3 hm, ?_⟩
  exact snd_tb (snd_op h2 h4)
@[simp] def dAnd (a b : DT) : DT := fun env st => (a env st).bind fun c st => if c = true then b env st else .ok false st
@[simp] def dOr (a b : DT) : DT := fun env st => (a env st).bind fun c st => if c = true then .ok true st else b env st
@[simp] def dNot (a : DT) : DT := fun env st => (a env st).bind fun c st => .ok (!c) st
theorem Post.same {K : PySem.W.Frag} {β : Type} {S : Gh} {H : Hp} {RP : Gh → Hp → β → β → Prop} {Q : β → Hp → Prop} {W : Value → Option Addr → Hp → Prop} {b : β} {st : Store} (p : Post K Z S H RP Q W (.ok b st)) (w : Wf S H) (s : StR K Z S H st) (h : RP S H b b) : Q b H := p b S H (Ext.refl S H) w s h
theorem snd_and {K : PySem.W.Frag} {ta tb : TT} {da db : DT} (ha : Snd K Z W rpT ta da) (hb : Snd K Z W rpT tb db) : Snd K Z W rpT (tAnd ta tb) (dAnd da db) := by
  refine snd_bind (RPb := rpT) (tb := fun c σ H Q => if c = true then tb σ H Q else Q false H) (db := fun c env st => if c = true then db env st else .ok false st) ha ?_
  intro S σ H env st Q v x S1 H1 st1 r e1 r1 p1 po
  have e : v = x := p1
  subst e
  cases v with
  | true =>
    rw [if_pos rfl] at po ⊢
    exact hb S1 σ H1 env st1 Q r1 po
  | false =>
    rw [if_neg Bool.false_ne_true] at po ⊢
    exact po.same r1.wf r1.str rfl
theorem snd_or {K : PySem.W.Frag} {ta tb : TT} {da db : DT} (ha : Snd K Z W rpT ta da) (hb : Snd K Z W rpT tb db) : Snd K Z W rpT (tOr ta tb) (dOr da db) := by
  refine snd_bind (RPb := rpT) (tb := fun c σ H Q => if c = true then Q true H else tb σ H Q) (db := fun c env st => if c = true then .ok true st else db env st) ha ?_
  intro S σ H env st Q v x S1 H1 st1 r e1 r1 p1 po
  have e : v = x := p1
  subst e
  cases v with
  | false =>
    rw [if_neg Bool.false_ne_true] at po ⊢
    exact hb S1 σ H1 env st1 Q r1 po
  | true =>
    rw [if_pos rfl] at po ⊢
    exact po.same r1.wf r1.str rfl
theorem mt_pw {e : Expr} {d : DT} (h : MW Z X W e d) : MT Z X W e d := let ⟨t, h1, h2⟩ := h; ⟨t, h1.pt, h2⟩
theorem mw_and1 {a : Expr} {d : DT} {pos : Pos} (h : MT Z X W a d) : MW Z X W (.BoolOp .And [a] pos) d := let ⟨t, h1, h2⟩ := h; ⟨t, pw_and1 h1, h2⟩
theorem mw_or1 {a : Expr} {d : DT} {pos : Pos} (h : MT Z X W a d) : MW Z X W (.BoolOp .Or [a] pos) d := let ⟨t, h1, h2⟩ := h; ⟨t, pw_or1 h1, h2⟩
theorem mw_and {a b : Expr} {rest : List Expr} {da db : DT} {pos : Pos} (h : MT Z X W a da) (h' : MW Z X W (.BoolOp .And (b :: rest) pos) db) : MW Z X W (.BoolOp .And (a :: b :: rest) pos) (dAnd da db) := by
  obtain ⟨t, h1, h2⟩ := h
  obtain ⟨t', h3, h4⟩ := h'
  exact ⟨_, pw_and h1 h3, snd_and h2 h4⟩
theorem mw_or {a b : Expr} {rest : List Expr} {da db : DT} {pos : Pos} (h : MT Z X W a da) (h' : MW Z X W (.BoolOp .Or (b :: rest) pos) db) : MW Z X W (.BoolOp .Or (a :: b :: rest) pos) (dOr da db) := by
  obtain ⟨t, h1, h2⟩ := h
  obtain ⟨t', h3, h4⟩ := h'
  exact ⟨_, pw_or h1 h3, snd_or h2 h4⟩
theorem mt_not {a : Expr} {da : DT} {pos : Pos} (h : MT Z X W a da) : MT Z X W (.UnaryOp .Not a pos) (dNot da) := by
  obtain ⟨t, h1, h2⟩ := h
  refine ⟨_, pt_not h1, ?_⟩
  refine snd_bind (RPb := rpT) (tb := fun c σ H Q => Q (!c) H) (db := fun c env st => .ok (!c) st) h2 ?_
  intro S σ H env st Q v x S1 H1 st1 r e1 r1 p1 po
  have e : v = x := p1
  subst e
  exact po.same r1.wf r1.str rfl
/-! and, or, not as values -/
def asB (d : DE) : Evn → Store → Out Bool := dTB d
@[simp] def dAndV (a : DE) (b : DE) : DE := fun env st => (dTB a env st).bind fun c st => if c = true then b env st else .ok (.val (.bl false)) st
@[simp] def dOrV (a : DE) (b : DE) : DE := fun env st => (dTB a env st).bind fun c st => if c = true then .ok (.val (.bl true)) st else b env st
@[simp] def dNotV (a : DE) : DE := fun env st => (dTB a env st).bind fun c st => .ok (.val (.bl (!c))) st
theorem me_one {op} {a : Expr} {d : DE} {pos : Pos} (h : ME Z X W a d) : ME Z X W (.BoolOp op [a] pos) d := let ⟨t, h1, h2⟩ := h; ⟨t, pe_one h1, h2⟩
theorem me_and {a b : Expr} {rest : List Expr} {da db : DE} {pos : Pos} (h : ME Z X W a da) (h' : ME Z X W (.BoolOp .And (b :: rest) pos) db) : ME Z X W (.BoolOp .And (a :: b :: rest) pos) (dAndV da db) := by
  obtain ⟨t, h1, h2⟩ := h
  obtain ⟨t', h3, h4⟩ := h'
  refine ⟨_, pe_and h1 h3, ?_⟩
  intro S σ H env st Q r p
  have := snd_bind (RPb := rpE X.K Z) (tb := fun c σ H Q => if c = true then t' σ H Q else Q (.bl false) H) (db := fun c env st => if c = true then db env st else .ok (.val (.bl false)) st) (snd_tb h2) (by
    intro S σ H env st Q v x S1 H1 st1 r e1 r1 p1 po
    have e : v = x := p1
    subst e
    cases v with
    | true =>
      rw [if_pos rfl] at po ⊢
      exact h4 S1 σ H1 env st1 Q r1 (po.imp fun a y S' H' e w q => RR.back q e1.live)
    | false =>
      rw [if_neg Bool.false_ne_true] at po ⊢
      exact po (.bl false) S1 H1 (Ext.refl _ _) r1.wf r1.str (by simp only [rpE, RR, Rep])) S σ H env st Q r p
  simp only [tB] at this
  exact this
theorem me_or {a b : Expr} {rest : List Expr} {da db : DE} {pos : Pos} (h : ME Z X W a da) (h' : ME Z X W (.BoolOp .Or (b :: rest) pos) db) : ME Z X W (.BoolOp .Or (a :: b :: rest) pos) (dOrV da db) := by
  obtain ⟨t, h1, h2⟩ := h
  obtain ⟨t', h3, h4⟩ := h'
  refine ⟨_, pe_or h1 h3, ?_⟩
  intro S σ H env st Q r p
  have := snd_bind (RPb := rpE X.K Z) (tb := fun c σ H Q => if c = true then Q (.bl true) H else t' σ H Q) (db := fun c env st => if c = true then .ok (.val (.bl true)) st else db env st) (snd_tb h2) (by
    intro S σ H env st Q v x S1 H1 st1 r e1 r1 p1 po
    have e : v = x := p1
    subst e
    cases v with
    | false =>
      rw [if_neg Bool.false_ne_true] at po ⊢
      exact h4 S1 σ H1 env st1 Q r1 (po.imp fun a y S' H' e w q => RR.back q e1.live)
    | true =>
      rw [if_pos rfl] at po ⊢
      exact po (.bl true) S1 H1 (Ext.refl _ _) r1.wf r1.str (by simp only [rpE, RR, Rep])) S σ H env st Q r p
  simp only [tB] at this
  exact this
theorem me_not {a : Expr} {da : DE} {pos : Pos} (h : ME Z X W a da) : ME Z X W (.UnaryOp .Not a pos) (dNotV da) := by
  obtain ⟨t, h1, h2⟩ := h
  refine ⟨_, pe_not h1, ?_⟩
  intro S σ H env st Q r p
  have := snd_bind (RPb := rpE X.K Z) (tb := fun c σ H Q => Q (.bl (!c)) H) (db := fun c env st => .ok (.val (.bl (!c))) st) (snd_tb h2) (by
    intro S σ H env st Q v x S1 H1 st1 r e1 r1 p1 po
    have e : v = x := p1
    subst e
    exact po _ S1 H1 (Ext.refl _ _) r1.wf r1.str (by simp only [rpE, RR, Rep])) S σ H env st Q r p
  simp only [tB] at this
  exact this
@[simp] def dIfE (c : DT) (a b : DE) : DE := fun env st => (c env st).bind fun c st => if c = true then a env st else b env st
theorem me_if {c a b : Expr} {dc : DT} {da db : DE} {pos : Pos} (hc : MT Z X W c dc) (ha : ME Z X W a da) (hb : ME Z X W b db) : ME Z X W (.IfExp c a b pos) (dIfE dc da db) := by
  obtain ⟨t, h1, h2⟩ := hc
  obtain ⟨t1, h3, h4⟩ := ha
  obtain ⟨t2, h5, h6⟩ := hb
  refine ⟨_, pe_ifExp h1 h3 h5, ?_⟩
  refine snd_bind (RPb := rpE X.K Z) (tb := fun c σ H Q => if c = true then t1 σ H Q else t2 σ H Q) (db := fun c env st => if c = true then da env st else db env st) h2 ?_
  intro S σ H env st Q v x S1 H1 st1 r e1 r1 p1 po
  have e : v = x := p1
  subst e
  cases v with
  | false =>
    rw [if_neg Bool.false_ne_true] at po ⊢
    exact h6 S1 σ H1 env st1 Q r1 (po.imp fun a y S' H' e w q => RR.back q e1.live)
  | true =>
    rw [if_pos rfl] at po ⊢
    exact h4 S1 σ H1 env st1 Q r1 (po.imp fun a y S' H' e w q => RR.back q e1.live)
end
end Eg

namespace Eg
open PySem L2
section
variable {K : PySem.W.Frag} {Z : Stc} {S S' : Gh} {H H' : Hp}
/-! ### lists of things -/
theorem repL_nil : RepL K Z S [] [] := by simp only [RepL]
theorem repL_cons {v x vs xs} (h : Rep K Z S v x) (t : RepL K Z S vs xs) : RepL K Z S (v :: vs) (x :: xs) := by
  simp only [RepL]
  exact ⟨x, xs, rfl, h, t⟩
theorem repL_uncons {v vs xs} (h : RepL K Z S (v :: vs) xs) : ∃ x r, xs = x :: r ∧ Rep K Z S v x ∧ RepL K Z S vs r := by simpa only [RepL] using h
theorem repL_length : ∀ {vs : List Val} {xs : List V}, RepL K Z S vs xs → vs.length = xs.length
  | [], xs, h => by
    simp only [RepL] at h
    rw [h]
    rfl
  | v :: vs, xs, h => by
    obtain ⟨x, r, rfl, _, t⟩ := repL_uncons h
    rw [List.length_cons, List.length_cons, repL_length t]
theorem repL_append : ∀ {vs : List Val} {xs : List V} {ws ys}, RepL K Z S vs xs → RepL K Z S ws ys → RepL K Z S (vs ++ ws) (xs ++ ys)
  | [], xs, ws, ys, h, k => by
    simp only [RepL] at h
    rw [h]
    exact k
  | v :: vs, xs, ws, ys, h, k => by
    obtain ⟨x, r, rfl, h1, t⟩ := repL_uncons h
    exact repL_cons h1 (repL_append t k)
theorem repL_get : ∀ {vs : List Val} {xs : List V} {i : Nat} {v}, RepL K Z S vs xs → vs[i]? = some v → ∃ x, xs[i]? = some x ∧ Rep K Z S v x
  | [], _, _, _, _, e => by simp at e
  | v :: vs, xs, 0, w, h, e => by
    obtain ⟨x, r, rfl, h1, t⟩ := repL_uncons h
    simp at e
    subst e
    exact ⟨x, rfl, h1⟩
  | v :: vs, xs, i + 1, w, h, e => by
    obtain ⟨x, r, rfl, h1, t⟩ := repL_uncons h
    obtain ⟨y, e1, e2⟩ := repL_get (i := i) t (by simpa using e)
    exact ⟨y, by simpa using e1, e2⟩
theorem repL_get' : ∀ {vs : List Val} {xs : List V} {i : Nat} {x}, RepL K Z S vs xs → xs[i]? = some x → ∃ v, vs[i]? = some v ∧ Rep K Z S v x := fun {vs xs i x} h e => by
  have hl := repL_length h
  have hi : i < vs.length := by
    rw [hl]
    exact (List.getElem?_eq_some_iff.mp e).1
  obtain ⟨y, e1, e2⟩ := repL_get h (List.getElem?_eq_getElem hi)
  rw [e] at e1
  cases e1
  exact ⟨_, List.getElem?_eq_getElem hi, e2⟩
theorem repL_take : ∀ {vs : List Val} {xs : List V} (n : Nat), RepL K Z S vs xs → RepL K Z S (vs.take n) (xs.take n)
  | [], xs, n, h => by
    simp only [RepL] at h
    rw [h, List.take_nil, List.take_nil]
    exact repL_nil
  | v :: vs, xs, 0, h => by
    rw [List.take_zero, List.take_zero]
    exact repL_nil
  | v :: vs, xs, n + 1, h => by
    obtain ⟨x, r, rfl, h1, t⟩ := repL_uncons h
    exact repL_cons h1 (repL_take n t)
theorem repL_drop : ∀ {vs : List Val} {xs : List V} (n : Nat), RepL K Z S vs xs → RepL K Z S (vs.drop n) (xs.drop n)
  | [], xs, n, h => by
    simp only [RepL] at h
    rw [h, List.drop_nil, List.drop_nil]
    exact repL_nil
  | v :: vs, xs, 0, h => h
  | v :: vs, xs, n + 1, h => by
    obtain ⟨x, r, rfl, h1, t⟩ := repL_uncons h
    exact repL_drop n t
theorem repL_set : ∀ {vs : List Val} {xs : List V} (n : Nat) {v x}, RepL K Z S vs xs → Rep K Z S v x → RepL K Z S (vs.set n v) (xs.set n x)
  | [], xs, n, _, _, h, _ => by
    simp only [RepL] at h
    rw [h]
    exact repL_nil
  | v :: vs, xs, 0, _, _, h, q => by
    obtain ⟨x, r, rfl, h1, t⟩ := repL_uncons h
    exact repL_cons q t
  | v :: vs, xs, n + 1, _, _, h, q => by
    obtain ⟨x, r, rfl, h1, t⟩ := repL_uncons h
    exact repL_cons h1 (repL_set n t q)
theorem repL_rep {vs : List Val} {xs : List V} (h : RepL K Z S vs xs) : ∀ n : Nat, RepL K Z S (List.replicate n vs).flatten (List.replicate n xs).flatten
  | 0 => repL_nil
  | n + 1 => by
    rw [List.replicate_succ, List.replicate_succ, List.flatten_cons, List.flatten_cons]
    exact repL_append h (repL_rep h n)
theorem repL_ints {f : Int → Val} (hf : ∀ i, f i = .int i) : ∀ ns : List Int, RepL K Z S (ns.map f) (ns.map V.int)
  | [] => repL_nil
  | n :: ns => repL_cons (by rw [hf]; simp only [Rep]) (repL_ints hf ns)
/-- the ints of a list -/
def intsOf : List Val → Option (List Int)
  | [] => some []
  | .int i :: r => (intsOf r).map (i :: ·)
  | _ => none
theorem intsOf_map : ∀ ns : List Int, intsOf (ns.map Val.int) = some ns
  | [] => rfl
  | n :: ns => by
    show (intsOf (ns.map Val.int)).map (n :: ·) = _
    rw [intsOf_map ns]
    rfl
theorem repL_intsOf : ∀ {vs : List Val} {xs : List V} {ns}, RepL K Z S vs xs → intsOf vs = some ns → xs = ns.map V.int
  | [], xs, ns, h, e => by
    simp only [RepL] at h
    cases e
    exact h
  | .int i :: vs, xs, ns, h, e => by
    obtain ⟨x, r, rfl, h1, t⟩ := repL_uncons h
    have e' : (intsOf vs).map (i :: ·) = some ns := e
    cases q : intsOf vs with
    | none => rw [q] at e'; cases e'
    | some ms =>
      rw [q] at e'
      cases e'
      have hx : x = V.int i := by simpa only [Rep] using h1
      rw [hx, repL_intsOf t q]
      rfl
  | .non :: _, _, _, _, e => by cases e
  | .bl _ :: _, _, _, _, e => by cases e
  | .str _ :: _, _, _, _, e => by cases e
  | .tup _ :: _, _, _, _, e => by cases e
  | .lst _ :: _, _, _, _, e => by cases e
  | .slst _ :: _, _, _, _, e => by cases e
  | .dic _ _ :: _, _, _, _, e => by cases e
  | .obj _ :: _, _, _, _, e => by cases e
  | .fn _ :: _, _, _, _, e => by cases e

/-! ### equality of data -/
mutual
def toPD : Val → PyData
  | .non => .none
  | .bl b => .bool b
  | .int i => .int i
  | .str x => .str x
  | .tup vs => .tuple (toPDs vs)
  | .lst vs => .list (toPDs vs)
  | .slst vs => .list (toPDs vs)
  | .dic _ _ => .dict []
  | .obj _ => .dict []
  | .fn _ => .dict []
def toPDs : List Val → List PyData
  | [] => []
  | v :: vs => toPD v :: toPDs vs
end
/-- data of at most n levels -/
def dat : Nat → Val → Bool
  | _, .non => true
  | _, .bl _ => true
  | _, .int _ => true
  | _, .str _ => true
  | n + 1, .tup vs => vs.all (dat n)
  | n + 1, .lst vs => vs.all (dat n)
  | n + 1, .slst vs => vs.all (dat n)
  | _, _ => false
mutual
def eqv : Val → Val → Bool
  | .non, .non => true
  | .bl a, .bl b => a == b
  | .bl a, .int j => (if a then 1 else 0) == j
  | .int i, .bl b => i == (if b then 1 else 0)
  | .int i, .int j => decide (i = j)
  | .str x, .str y => decide (x = y)
  | .tup xs, .tup ys => eqvs xs ys
  | .lst xs, .lst ys => eqvs xs ys
  | .lst xs, .slst ys => eqvs xs ys
  | .slst xs, .lst ys => eqvs xs ys
  | .slst xs, .slst ys => eqvs xs ys
  | _, _ => false
def eqvs : List Val → List Val → Bool
  | [], [] => true
  | x :: xs, y :: ys => eqv x y && eqvs xs ys
  | _, _ => false
end
theorem all_cons' {n : Nat} {v : Val} {vs : List Val} (h : (v :: vs).all (dat n) = true) : dat n v = true ∧ vs.all (dat n) = true := by simpa using h
mutual
theorem plain_dat : ∀ (n : Nat) (v : Val), dat n v = true → (toPD v).plain = true ∧ (toPD v).depth ≤ n
  | n, .non, _ => ⟨by simp [toPD, PyData.plain], by simp [toPD, PyData.depth]⟩
  | n, .bl _, _ => ⟨by simp [toPD, PyData.plain], by simp [toPD, PyData.depth]⟩
  | n, .int _, _ => ⟨by simp [toPD, PyData.plain], by simp [toPD, PyData.depth]⟩
  | n, .str _, _ => ⟨by simp [toPD, PyData.plain], by simp [toPD, PyData.depth]⟩
  | 0, .tup vs, h => by simp [dat] at h
  | 0, .lst vs, h => by simp [dat] at h
  | 0, .slst vs, h => by simp [dat] at h
  | n + 1, .tup vs, h => by
    have q := plain_dats n vs (by simpa only [dat] using h)
    exact ⟨by simp only [toPD, PyData.plain]; exact q.1, by simp only [toPD, PyData.depth]; omega⟩
  | n + 1, .lst vs, h => by
    have q := plain_dats n vs (by simpa only [dat] using h)
    exact ⟨by simp only [toPD, PyData.plain]; exact q.1, by simp only [toPD, PyData.depth]; omega⟩
  | n + 1, .slst vs, h => by
    have q := plain_dats n vs (by simpa only [dat] using h)
    exact ⟨by simp only [toPD, PyData.plain]; exact q.1, by simp only [toPD, PyData.depth]; omega⟩
  | n, .dic _ _, h => by cases n <;> simp [dat] at h
  | n, .obj _, h => by cases n <;> simp [dat] at h
  | n, .fn _, h => by cases n <;> simp [dat] at h
theorem plain_dats : ∀ (n : Nat) (vs : List Val), vs.all (dat n) = true → PyData.plainAll (toPDs vs) = true ∧ PyData.depthAll (toPDs vs) ≤ n
  | n, [], _ => ⟨by simp [toPDs, PyData.plainAll], by simp [toPDs, PyData.depthAll]⟩
  | n, v :: vs, h => by
    obtain ⟨h1, h2⟩ := all_cons' h
    have q1 := plain_dat n v h1
    have q2 := plain_dats n vs h2
    exact ⟨by simp only [toPDs, PyData.plainAll, q1.1, q2.1, Bool.and_self], by simp only [toPDs, PyData.depthAll]; omega⟩
end
mutual
theorem eqv_pd : ∀ (v w : Val), (∃ n, dat n v = true) → (∃ n, dat n w = true) → PyData.eqv (toPD v) (toPD w) = eqv v w
  | .dic _ _, _, ⟨n, h⟩, _ => by cases n <;> simp [dat] at h
  | .obj _, _, ⟨n, h⟩, _ => by cases n <;> simp [dat] at h
  | .fn _, _, ⟨n, h⟩, _ => by cases n <;> simp [dat] at h
  | .non, w, _, ⟨n, h⟩ => by cases w <;> first | rfl | (cases n <;> simp [dat] at h)
  | .bl _, w, _, ⟨n, h⟩ => by cases w <;> first | rfl | (cases n <;> simp [dat] at h)
  | .int _, w, _, ⟨n, h⟩ => by cases w <;> first | rfl | (cases n <;> simp [dat] at h)
  | .str _, w, _, ⟨n, h⟩ => by
    cases w with
    | str y => simp only [toPD, PyData.eqv, eqv]; rw [Bool.beq_eq_decide_eq]
    | _ => first | rfl | (cases n <;> simp [dat] at h)
  | .tup vs, w, ⟨m, hm⟩, ⟨n, h⟩ => by
    cases w with
    | tup ws =>
      cases m with
      | zero => simp [dat] at hm
      | succ m =>
        cases n with
        | zero => simp [dat] at h
        | succ n =>
          simp only [toPD, PyData.eqv, eqv]
          exact eqvs_pd vs ws ⟨m, by simpa only [dat] using hm⟩ ⟨n, by simpa only [dat] using h⟩
    | _ => first | rfl | (cases n <;> simp [dat] at h)
  | .lst vs, w, ⟨m, hm⟩, ⟨n, h⟩ => by
    cases w with
    | lst ws =>
      cases m with
      | zero => simp [dat] at hm
      | succ m =>
        cases n with
        | zero => simp [dat] at h
        | succ n =>
          simp only [toPD, PyData.eqv, eqv]
          exact eqvs_pd vs ws ⟨m, by simpa only [dat] using hm⟩ ⟨n, by simpa only [dat] using h⟩
    | slst ws =>
      cases m with
      | zero => simp [dat] at hm
      | succ m =>
        cases n with
        | zero => simp [dat] at h
        | succ n =>
          simp only [toPD, PyData.eqv, eqv]
          exact eqvs_pd vs ws ⟨m, by simpa only [dat] using hm⟩ ⟨n, by simpa only [dat] using h⟩
    | _ => first | rfl | (cases n <;> simp [dat] at h)
  | .slst vs, w, ⟨m, hm⟩, ⟨n, h⟩ => by
    cases w with
    | lst ws =>
      cases m with
      | zero => simp [dat] at hm
      | succ m =>
        cases n with
        | zero => simp [dat] at h
        | succ n =>
          simp only [toPD, PyData.eqv, eqv]
          exact eqvs_pd vs ws ⟨m, by simpa only [dat] using hm⟩ ⟨n, by simpa only [dat] using h⟩
    | slst ws =>
      cases m with
      | zero => simp [dat] at hm
      | succ m =>
        cases n with
        | zero => simp [dat] at h
        | succ n =>
          simp only [toPD, PyData.eqv, eqv]
          exact eqvs_pd vs ws ⟨m, by simpa only [dat] using hm⟩ ⟨n, by simpa only [dat] using h⟩
    | _ => first | rfl | (cases n <;> simp [dat] at h)
theorem eqvs_pd : ∀ (vs ws : List Val), (∃ n, vs.all (dat n) = true) → (∃ n, ws.all (dat n) = true) → PyData.eqvAll (toPDs vs) (toPDs ws) = eqvs vs ws
  | [], [], _, _ => rfl
  | [], _ :: _, _, _ => rfl
  | _ :: _, [], _, _ => rfl
  | v :: vs, w :: ws, ⟨m, hm⟩, ⟨n, hn⟩ => by
    obtain ⟨a1, a2⟩ := all_cons' hm
    obtain ⟨b1, b2⟩ := all_cons' hn
    simp only [toPDs, PyData.eqvAll, eqvs]
    rw [eqv_pd v w ⟨m, a1⟩ ⟨n, b1⟩, eqvs_pd vs ws ⟨m, a2⟩ ⟨n, b2⟩]
end
mutual
theorem dp_rep (w : Wf S H) : ∀ (n : Nat) (v : Val) (x : V), dat n v = true → Rep K Z S v x → Dp K H x (toPD v)
  | n, .non, x, _, h => by
    have e : x = V.non := by simpa only [Rep] using h
    rw [e]; simp only [toPD]; exact .non
  | n, .bl b, x, _, h => by
    have e : x = V.bl b := by simpa only [Rep] using h
    rw [e]; simp only [toPD]; exact .bl b
  | n, .int b, x, _, h => by
    have e : x = V.int b := by simpa only [Rep] using h
    rw [e]; simp only [toPD]; exact .int b
  | n, .str b, x, _, h => by
    have e : x = V.str b := by simpa only [Rep] using h
    rw [e]; simp only [toPD]; exact .str b
  | 0, .tup vs, _, d, _ => by simp [dat] at d
  | 0, .lst vs, _, d, _ => by simp [dat] at d
  | 0, .slst vs, _, d, _ => by simp [dat] at d
  | n + 1, .tup vs, x, d, h => by
    simp only [Rep] at h
    obtain ⟨a, xs, rfl, q, r⟩ := h
    simp only [toPD]
    exact .tup (sqT_mono w.same q) (dp_reps w n vs xs (by simpa only [dat] using d) r)
  | n + 1, .lst vs, x, d, h => by
    simp only [Rep] at h
    obtain ⟨a, xs, rfl, q, r⟩ := h
    simp only [toPD]
    exact .lst (.inl (.inl (w.same _ _ q))) (dp_reps w n vs xs (by simpa only [dat] using d) r)
  | n + 1, .slst vs, x, d, h => by
    simp only [Rep] at h
    obtain ⟨a, xs, rfl, q, r⟩ := h
    simp only [toPD]
    exact .lst (sqL_at (w.same a) q) (dp_reps w n vs xs (by simpa only [dat] using d) r)
  | n, .dic _ _, _, d, _ => by cases n <;> simp [dat] at d
  | n, .obj _, _, d, _ => by cases n <;> simp [dat] at d
  | n, .fn _, _, d, _ => by cases n <;> simp [dat] at d
theorem dp_reps (w : Wf S H) : ∀ (n : Nat) (vs : List Val) (xs : List V), vs.all (dat n) = true → RepL K Z S vs xs → DpAll K H xs (toPDs vs)
  | n, [], xs, _, h => by
    have e : xs = [] := by simpa only [RepL] using h
    rw [e]; simp only [toPDs]; exact .nil
  | n, v :: vs, xs, d, h => by
    obtain ⟨x, r, rfl, h1, t⟩ := repL_uncons h
    obtain ⟨d1, d2⟩ := all_cons' d
    simp only [toPDs]
    exact .cons (dp_rep w n v x d1 h1) (dp_reps w n vs r d2 t)
end
theorem dp_prep (w : Wf S H) {n v x} (d : dat n v = true) (h : PRep K Z S H v x) : Dp K H x (toPD v) := by
  cases v with
  | lst vs =>
    obtain ⟨a, xs, rfl, q, r⟩ := h
    simp only [toPD]
    cases n with
    | zero => simp [dat] at d
    | succ n => exact .lst (.inl (.inl q)) (dp_reps w n vs xs (by simpa only [dat] using d) r)
  | dic ks vs => cases n <;> simp [dat] at d
  | non => exact dp_rep (Z := Z) w n _ x d h
  | bl b => exact dp_rep (Z := Z) w n _ x d h
  | int b => exact dp_rep (Z := Z) w n _ x d h
  | str b => exact dp_rep (Z := Z) w n _ x d h
  | tup b => exact dp_rep (Z := Z) w n _ x d h
  | slst b => exact dp_rep (Z := Z) w n _ x d h
  | obj b => exact dp_rep (Z := Z) w n _ x d h
  | fn b => exact dp_rep (Z := Z) w n _ x d h
end

/-! ### the operators -/
def iBits (i j : Int) : Bool := decide (i.natAbs.log2 + j.natAbs.log2 < 100000000)
theorem iBits_ok {i j : Int} (h : iBits i j = true) : IntMulOk i j := by
  have b : ∀ x : Int, Builtin.Int.intBits x ≤ x.natAbs.log2 + 1 := fun x => by
    unfold Builtin.Int.intBits
    split <;> omega
  have h1 := b i
  have h2 := b j
  have h3 : i.natAbs.log2 + j.natAbs.log2 < 100000000 := of_decide_eq_true h
  have e : bitsLine = 134217728 := by decide
  unfold IntMulOk
  intro z
  rw [Bool.and_eq_true] at z
  have z2 := z.2
  unfold Builtin.Int.intTooBig at z2
  have z3 := of_decide_eq_true z2
  rw [e] at z3
  omega
theorem iBits_of {i j : Int} {a b : Nat} (ha : i.natAbs < 2 ^ a) (hb : j.natAbs < 2 ^ b) (h0 : 0 < a) (h1 : 0 < b) (h : a + b ≤ 100000000) : iBits i j = true := by
  have x := PySem.Flt.log2_lt_of h0 ha
  have y := PySem.Flt.log2_lt_of h1 hb
  unfold iBits
  exact decide_eq_true (by omega)
def divOk (j : Int) : Bool := decide (0 < j ∧ j.natAbs.log2 < 9000)
def powOk (i j : Int) : Bool := decide (0 ≤ j ∧ (Builtin.Int.intBits i : Int) * j ≤ 2 ^ 27)
@[simp] def gAdd : Val → Val → Option R
  | .int i, .int j => some (.val (.int (i + j)))
  | .str a, .str b => if a.length + b.length ≤ sizeLine then some (.val (.str (a ++ b))) else none
  | .lst a, .lst b => if a.length + b.length ≤ sizeLine then some (.own (a ++ b)) else none
  | _, _ => none
@[simp] def gSub : Val → Val → Option R
  | .int i, .int j => some (.val (.int (i - j)))
  | _, _ => none
def gMul : Val → Val → Option R
  | .int i, .int j => if iBits i j then some (.val (.int (i * j))) else none
  | .lst a, .int k => if -(2 ^ 63) ≤ k ∧ k < 2 ^ 63 ∧ a.length * k.toNat ≤ sizeLine then some (.own (List.replicate k.toNat a).flatten) else none
  | _, _ => none
def gDiv : Val → Val → Option R
  | .int i, .int j => if divOk j then some (.val (.int (i / j))) else none
  | _, _ => none
def gMod : Val → Val → Option R
  | .int i, .int j => if 0 < j then some (.val (.int (i % j))) else none
  | _, _ => none
def gPow : Val → Val → Option R
  | .int i, .int j => if powOk i j then some (.val (.int (i ^ j.toNat))) else none
  | _, _ => none
def gShl : Val → Val → Option R
  | .int i, .int j => if 0 ≤ j ∧ j ≤ 1000000 ∧ i.natAbs < 2 ^ 64 then some (.val (.int (i * 2 ^ j.toNat))) else none
  | _, _ => none
def gShr : Val → Val → Option R
  | .int i, .int j => if 0 ≤ j then some (.val (.int (i / 2 ^ j.toNat))) else none
  | _, _ => none
def gBit (f : Int → Int → Int) : Val → Val → Option R
  | .int i, .int j => some (.val (.int (f i j)))
  | _, _ => none
@[simp] def gLt : Val → Val → Option R
  | .int i, .int j => some (.val (.bl (decide (i < j))))
  | _, _ => none
@[simp] def gLe : Val → Val → Option R
  | .int i, .int j => some (.val (.bl (decide (i ≤ j))))
  | _, _ => none
@[simp] def gGt : Val → Val → Option R
  | .int i, .int j => some (.val (.bl (decide (j < i))))
  | _, _ => none
@[simp] def gGe : Val → Val → Option R
  | .int i, .int j => some (.val (.bl (decide (j ≤ i))))
  | _, _ => none
def gEq (v w : Val) : Option R := if dat 8 v = true ∧ dat 8 w = true then some (.val (.bl (eqv v w))) else none
def gNe (v w : Val) : Option R := if dat 8 v = true ∧ dat 8 w = true then some (.val (.bl (!eqv v w))) else none
def Val.isNon : Val → Bool | .non => true | _ => false
@[simp] theorem isNon_non : Val.non.isNon = true := rfl
@[simp] theorem isNon_bl (b) : (Val.bl b).isNon = false := rfl
@[simp] theorem isNon_int (b) : (Val.int b).isNon = false := rfl
@[simp] theorem isNon_str (b) : (Val.str b).isNon = false := rfl
@[simp] theorem isNon_tup (b) : (Val.tup b).isNon = false := rfl
@[simp] theorem isNon_lst (b) : (Val.lst b).isNon = false := rfl
@[simp] theorem isNon_slst (b) : (Val.slst b).isNon = false := rfl
@[simp] theorem isNon_dic (b c) : (Val.dic b c).isNon = false := rfl
@[simp] theorem isNon_obj (b) : (Val.obj b).isNon = false := rfl
@[simp] theorem isNon_fn (b) : (Val.fn b).isNon = false := rfl
@[simp] def gIsN : Val → Val → Option R
  | v, .non => some (.val (.bl v.isNon))
  | _, _ => none
@[simp] def gNotN : Val → Val → Option R
  | v, .non => some (.val (.bl (!v.isNon)))
  | _, _ => none
section
variable {Z : Stc} {X : Cx}
theorem q_val {K : PySem.W.Frag} {S : Gh} {H : Hp} {Q : VK} {v : Val} {x : V} (w : Wf S H) (q : ∀ x' S' H', ExtP S H S' H' → RR K Z S' H H' (.val v) x' → Q x' H') (h : Rep K Z S v x) : Q x H := q x S H (ExtP.refl w) h
theorem ng_of {S : Gh} {H : Hp} (w : Wf S H) {p} (h : H p = none) : S.G p = none := by
  cases q : S.G p with
  | none => rfl
  | some u => rw [w.same _ _ q] at h; cases h
theorem q_own {K : PySem.W.Frag} {S : Gh} {H : Hp} {Q : VK} {vs : List Val} {xs : List V} (w : Wf S H) (q : ∀ x' S' H', ExtP S H S' H' → RR K Z S' H H' (.own vs) x' → Q x' H') (h : RepL K Z S vs xs) :
    ∀ p, H p = none → Q (.ref p) (upd H p (.lst xs)) := fun p hp => q _ S _ (ExtP.new w hp) ⟨p, xs, rfl, upd_same, ng_none w hp, hp, h⟩
theorem os_int {f : Value → Value → Sem Value} {C : Int → Int → Prop} {g : Int → Int → Int} {G : Val → Val → Option R} (h : OpR X f (rI C fun i j => .int (g i j)))
    (hG : ∀ v w r, G v w = some r → ∃ i j, v = .int i ∧ w = .int j ∧ C i j ∧ r = .val (.int (g i j))) : OpS Z X f G := by
  intro pins s σ H x y v u Q I rx ry ⟨S, a, b, r, w, pa, pb, eg, q⟩
  obtain ⟨i, j, rfl, rfl, c, rfl⟩ := hG a b r eg
  refine h pins s σ H x y v u Q I rx ry ⟨i, j, by simpa only [PRep, Rep] using pa, by simpa only [PRep, Rep] using pb, c, ?_⟩
  exact q_val w q (by simp only [Rep])
theorem os_intB {f : Value → Value → Sem Value} {g : Int → Int → Bool} {G : Val → Val → Option R} (h : OpR X f (rI0 fun i j => .bl (g i j)))
    (hG : ∀ v w r, G v w = some r → ∃ i j, v = .int i ∧ w = .int j ∧ r = .val (.bl (g i j))) : OpS Z X f G := by
  intro pins s σ H x y v u Q I rx ry ⟨S, a, b, r, w, pa, pb, eg, q⟩
  obtain ⟨i, j, rfl, rfl, rfl⟩ := hG a b r eg
  refine h pins s σ H x y v u Q I rx ry ⟨i, j, by simpa only [PRep, Rep] using pa, by simpa only [PRep, Rep] using pb, ?_⟩
  exact q_val w q (by simp only [Rep])
theorem os_int0 {f : Value → Value → Sem Value} {g : Int → Int → Int} {G : Val → Val → Option R} (h : OpR X f (rI0 fun i j => .int (g i j)))
    (hG : ∀ v w r, G v w = some r → ∃ i j, v = .int i ∧ w = .int j ∧ r = .val (.int (g i j))) : OpS Z X f G := by
  intro pins s σ H x y v u Q I rx ry ⟨S, a, b, r, w, pa, pb, eg, q⟩
  obtain ⟨i, j, rfl, rfl, rfl⟩ := hG a b r eg
  refine h pins s σ H x y v u Q I rx ry ⟨i, j, by simpa only [PRep, Rep] using pa, by simpa only [PRep, Rep] using pb, ?_⟩
  exact q_val w q (by simp only [Rep])
theorem os_add : OpS Z X (binaryOp .Add) gAdd := by
  intro pins s σ H x y v u Q I rx ry ⟨S, a, b, r, w, pa, pb, eg, q⟩
  unfold gAdd at eg
  split at eg
  · rename_i i j
    cases eg
    exact op_add pins s σ H x y v u Q I rx ry ⟨i, j, by simpa only [PRep, Rep] using pa, by simpa only [PRep, Rep] using pb, q_val w q (by simp only [Rep])⟩
  · rename_i i j
    split at eg
    · rename_i hz
      cases eg
      exact op_add_str pins s σ H x y v u Q I rx ry ⟨i, j, by simpa only [PRep, Rep] using pa, by simpa only [PRep, Rep] using pb, hz, q_val w q (by simp only [Rep])⟩
    · cases eg
  · rename_i i j
    split at eg
    · rename_i hz
      cases eg
      obtain ⟨l, xs, rfl, hl, r1⟩ := pa
      obtain ⟨l2, ys, rfl, hl2, r2⟩ := pb
      rw [repL_length r1, repL_length r2] at hz
      exact op_cat pins s σ H _ _ v u Q I rx ry ⟨l, l2, xs, ys, rfl, rfl, hl, hl2, hz, q_own w q (repL_append r1 r2)⟩
    · cases eg
  · cases eg
theorem os_sub : OpS Z X (binaryOp .Sub) gSub := os_int0 op_sub fun v w r e => by
  unfold gSub at e
  split at e
  · cases e; exact ⟨_, _, rfl, rfl, rfl⟩
  · cases e
theorem op_mulB : OpR X (binaryOp .Mult) (rI (fun i j => iBits i j = true) fun i j => .int (i * j)) := opI fun _ _ _ _ _ _ _ hc q => PyProof.Rows.mul_int q (iBits_ok hc)
theorem os_mul : OpS Z X (binaryOp .Mult) gMul := by
  intro pins s σ H x y v u Q I rx ry ⟨S, a, b, r, w, pa, pb, eg, q⟩
  unfold gMul at eg
  split at eg
  · rename_i i j
    split at eg
    · rename_i hz
      cases eg
      exact op_mulB pins s σ H x y v u Q I rx ry ⟨i, j, by simpa only [PRep, Rep] using pa, by simpa only [PRep, Rep] using pb, hz, q_val w q (by simp only [Rep])⟩
    · cases eg
  · rename_i vs k
    split at eg
    · rename_i hz
      cases eg
      obtain ⟨l, xs, rfl, hl, r1⟩ := pa
      rw [repL_length r1] at hz
      exact op_rep pins s σ H _ _ v u Q I rx ry ⟨l, k, xs, rfl, by simpa only [PRep, Rep] using pb, hl, hz.1, hz.2.1, hz.2.2, q_own w q (repL_rep r1 _)⟩
    · cases eg
  · cases eg
theorem op_divB : OpR X (binaryOp .FloorDiv) (rI (fun _ j => divOk j = true) fun i j => .int (i / j)) := opI fun i j _ _ _ _ _ hc q => by
  have hc' : 0 < j ∧ j.natAbs.log2 < 9000 := of_decide_eq_true hc
  exact PyProof.Rows.floordiv_int (by omega) (by rw [Int.fdiv_eq_ediv_of_nonneg i (by omega)]; exact q) (.inl (PyProof.noPylong_of_log2 hc'.2))
theorem os_div : OpS Z X (binaryOp .FloorDiv) gDiv := os_int op_divB fun v w r e => by
  unfold gDiv at e
  split at e
  · split at e
    · rename_i h
      cases e; exact ⟨_, _, rfl, rfl, h, rfl⟩
    · cases e
  · cases e
theorem os_mod : OpS Z X (binaryOp .Mod) gMod := os_int op_mod fun v w r e => by
  unfold gMod at e
  split at e
  · split at e
    · rename_i h
      cases e; exact ⟨_, _, rfl, rfl, h, rfl⟩
    · cases e
  · cases e
theorem op_powB : OpR X (binaryOp .Pow) (rI (fun i j => powOk i j = true) fun i j => .int (i ^ j.toNat)) := opI fun i j _ _ _ _ _ hc q => by
  have hc' : 0 ≤ j ∧ (Builtin.Int.intBits i : Int) * j ≤ 2 ^ 27 := of_decide_eq_true hc
  exact PyProof.Rows.pow_int hc'.1 hc'.2 q
theorem os_pow : OpS Z X (binaryOp .Pow) gPow := os_int op_powB fun v w r e => by
  unfold gPow at e
  split at e
  · split at e
    · rename_i h
      cases e; exact ⟨_, _, rfl, rfl, h, rfl⟩
    · cases e
  · cases e
theorem os_shl : OpS Z X (binaryOp .LShift) gShl := os_int op_shl fun v w r e => by
  unfold gShl at e
  split at e
  · split at e
    · rename_i h
      cases e; exact ⟨_, _, rfl, rfl, h, rfl⟩
    · cases e
  · cases e
theorem os_shr : OpS Z X (binaryOp .RShift) gShr := os_int op_shr fun v w r e => by
  unfold gShr at e
  split at e
  · split at e
    · rename_i h
      cases e; exact ⟨_, _, rfl, rfl, h, rfl⟩
    · cases e
  · cases e
theorem gBit_some {f : Int → Int → Int} (v w : Val) (r : R) (e : gBit f v w = some r) : ∃ i j, v = .int i ∧ w = .int j ∧ r = .val (.int (f i j)) := by
  unfold gBit at e
  split at e
  · cases e; exact ⟨_, _, rfl, rfl, rfl⟩
  · cases e
theorem os_and : OpS Z X (binaryOp .BitAnd) (gBit Builtin.bitAnd) := os_int0 op_and gBit_some
theorem os_or : OpS Z X (binaryOp .BitOr) (gBit Builtin.bitOr) := os_int0 op_or gBit_some
theorem os_xor : OpS Z X (binaryOp .BitXor) (gBit Builtin.bitXor) := os_int0 op_xor gBit_some
theorem os_lt : OpS Z X (compareOp .Lt) gLt := os_intB op_lt fun v w r e => by
  unfold gLt at e
  split at e
  · cases e; exact ⟨_, _, rfl, rfl, rfl⟩
  · cases e
theorem os_le : OpS Z X (compareOp .LtE) gLe := os_intB op_le fun v w r e => by
  unfold gLe at e
  split at e
  · cases e; exact ⟨_, _, rfl, rfl, rfl⟩
  · cases e
theorem os_gt : OpS Z X (compareOp .Gt) gGt := os_intB op_gt fun v w r e => by
  unfold gGt at e
  split at e
  · cases e; exact ⟨_, _, rfl, rfl, rfl⟩
  · cases e
theorem os_ge : OpS Z X (compareOp .GtE) gGe := os_intB op_ge fun v w r e => by
  unfold gGe at e
  split at e
  · cases e; exact ⟨_, _, rfl, rfl, rfl⟩
  · cases e
theorem os_eq (hu : X.A.units + 64 < cLine) : OpS Z X (compareOp .Eq) gEq := by
  intro pins s σ H x y v u Q I rx ry ⟨S, a, b, r, w, pa, pb, eg, q⟩
  unfold gEq at eg
  split at eg
  · rename_i hd
    cases eg
    obtain ⟨as, r1⟩ := Dp.reads I _ x v (dp_prep w hd.1 pa) rx
    obtain ⟨bs, r2⟩ := Dp.reads I _ y u (dp_prep w hd.2 pb) ry
    have d1 := plain_dat 8 a hd.1
    have d2 := plain_dat 8 b hd.2
    have hm : min (toPD a).depth (toPD b).depth ≤ 8 := Nat.le_trans (Nat.min_le_left _ _) d1.2
    refine SeqAt.eq_plain r1 r2 d1.1 d2.1 (by omega) ?_
    rw [eqv_pd a b ⟨8, hd.1⟩ ⟨8, hd.2⟩]
    exact ⟨.bl _, H, I, rfl, q_val w q (by simp only [Rep])⟩
  · cases eg
theorem os_ne (hu : X.A.units + 64 < cLine) : OpS Z X (compareOp .NotEq) gNe := by
  intro pins s σ H x y v u Q I rx ry ⟨S, a, b, r, w, pa, pb, eg, q⟩
  unfold gNe at eg
  split at eg
  · rename_i hd
    cases eg
    obtain ⟨as, r1⟩ := Dp.reads I _ x v (dp_prep w hd.1 pa) rx
    obtain ⟨bs, r2⟩ := Dp.reads I _ y u (dp_prep w hd.2 pb) ry
    have d1 := plain_dat 8 a hd.1
    have d2 := plain_dat 8 b hd.2
    have hm : min (toPD a).depth (toPD b).depth ≤ 8 := Nat.le_trans (Nat.min_le_left _ _) d1.2
    refine SeqAt.ne_plain r1 r2 d1.1 d2.1 (by omega) ?_
    rw [eqv_pd a b ⟨8, hd.1⟩ ⟨8, hd.2⟩]
    exact ⟨.bl _, H, I, rfl, q_val w q (by simp only [Rep])⟩
  · cases eg
theorem rep_non {K : PySem.W.Frag} {S : Gh} {H : Hp} {v : Val} {x : V} (h : PRep K Z S H v x) : decide (x = V.non) = v.isNon := by
  cases v with
  | non =>
    have e : x = V.non := by simpa only [PRep, Rep] using h
    rw [e]; rfl
  | bl b =>
    have e : x = V.bl b := by simpa only [PRep, Rep] using h
    rw [e]; rfl
  | int b =>
    have e : x = V.int b := by simpa only [PRep, Rep] using h
    rw [e]; rfl
  | str b =>
    have e : x = V.str b := by simpa only [PRep, Rep] using h
    rw [e]; rfl
  | tup b =>
    simp only [PRep, Rep] at h
    obtain ⟨a, xs, rfl, _⟩ := h
    rfl
  | lst b =>
    obtain ⟨a, xs, rfl, _⟩ := h
    rfl
  | slst b =>
    simp only [PRep, Rep] at h
    obtain ⟨a, xs, rfl, _⟩ := h
    rfl
  | dic ks b =>
    obtain ⟨a, xs, rfl, _⟩ := h
    rfl
  | obj b =>
    simp only [PRep, Rep] at h
    obtain ⟨a, _, rfl⟩ := h
    rfl
  | fn b =>
    have e : x = V.ref (Z.fns b) := by simpa only [PRep, Rep] using h
    rw [e]; rfl
theorem os_isN : OpS Z X (compareOp .Is) gIsN := by
  intro pins s σ H x y v u Q I rx ry ⟨S, a, b, r, w, pa, pb, eg, q⟩
  unfold gIsN at eg
  split at eg
  · cases eg
    refine op_isN pins s σ H x y v u Q I rx ry ⟨by simpa only [PRep, Rep] using pb, ?_⟩
    rw [rep_non pa]
    exact q_val w q (by simp only [Rep])
  · cases eg
theorem os_notN : OpS Z X (compareOp .IsNot) gNotN := by
  intro pins s σ H x y v u Q I rx ry ⟨S, a, b, r, w, pa, pb, eg, q⟩
  unfold gNotN at eg
  split at eg
  · cases eg
    refine op_notN pins s σ H x y v u Q I rx ry ⟨by simpa only [PRep, Rep] using pb, ?_⟩
    rw [rep_non pa]
    exact q_val w q (by simp only [Rep])
  · cases eg
end
end Eg

namespace Eg
open PySem L2
section
variable {K : PySem.W.Frag} {Z : Stc} {S S' S1 : Gh} {H H' H1 : Hp} {W : WX}
def Slot.addrs (s : Slot) : Bool := s.isAddr
/-- an own slot's thing stands in the heap -/
theorem own_live {σ env st} (r : SR K Z S σ H env st) {a} (h : OwnA env σ a) : H a ≠ none := by
  obtain ⟨i, s, e, o, q⟩ := h
  obtain ⟨x, h1, h2⟩ := r.sl i s e
  rw [q] at h1
  cases h1
  cases s with
  | val v => cases o
  | exn c => cases o
  | fnv g => cases o
  | brw vs => cases o
  | brwd ks vs => cases o
  | lkd ks vs => cases o
  | own vs =>
    obtain ⟨l, xs, e1, e2, _⟩ := h2
    cases e1
    rw [e2]; simp
  | ownd ks vs =>
    obtain ⟨l, xs, e1, e2, _⟩ := h2
    cases e1
    rw [e2]; simp
theorem StR.freeze {st} (s : StR K Z S H st) {p o} (g : S.G p = none) : StR K Z (S.add p o) H st :=
  ⟨s.tab, s.len, s.nd, s.dl, fun i ob e => (s.ob i ob e).to (fun _ q => q) Iff.rfl (fun _ _ _ _ q => q) (fun _ _ q _ => q) fun vs xs q => RepL.mono (mon_add (o := o) g) vs xs q⟩
theorem Ng.freeze {l p : Addr} {o : HO} (h : Ng S l) (n : l ≠ p) : Ng (S.add p o) l := ⟨(upd_ne n).trans h.g, h.m⟩
/-- a new thing that stands in H, frozen: the slots stay -/
theorem SR.freeze {σ env st} (r : SR K Z S σ H env st) {p o} (h : H p = some o) (f : Frz o) (g : Ng S p) (n : ¬ OwnA env σ p) : SR K Z (S.add p o) σ H env st := by
  have w := wf_freeze r.wf h f g
  have m := mon_add (o := o) g.g
  refine ⟨w, r.str.freeze g.g, r.len, fun i s e => ?_, r.sep⟩
  obtain ⟨x, h1, h2⟩ := r.sl i s e
  refine ⟨x, h1, ?_⟩
  cases s with
  | val v => exact Rep.mono m _ _ h2
  | exn c => exact h2
  | fnv g => exact h2
  | brw vs =>
    obtain ⟨l, xs, e1, e2, e3⟩ := h2
    exact ⟨l, xs, e1, ⟨e2.h, e2.m⟩, RepL.mono m _ _ e3⟩
  | brwd ks vs =>
    obtain ⟨l, xs, e1, e2, e3, e4⟩ := h2
    exact ⟨l, xs, e1, ⟨e2.h, e2.m⟩, e3, RepL.mono m _ _ e4⟩
  | lkd ks vs =>
    obtain ⟨l, xs, e1, e2, e3, e4⟩ := h2
    exact ⟨l, xs, e1, ⟨e2.h, e2.m⟩, e3, RepL.mono m _ _ e4⟩
  | own vs =>
    obtain ⟨l, xs, e1, e2, e3, e4⟩ := h2
    have hl : l ≠ p := fun z => n ⟨i, _, e, rfl, by rw [h1, e1, z]⟩
    exact ⟨l, xs, e1, e2, e3.freeze hl, RepL.mono m _ _ e4⟩
  | ownd ks vs =>
    obtain ⟨l, xs, e1, e2, e3, e4, e5⟩ := h2
    have hl : l ≠ p := fun z => n ⟨i, _, e, rfl, by rw [h1, e1, z]⟩
    exact ⟨l, xs, e1, e2, e3.freeze hl, e4, RepL.mono m _ _ e5⟩
theorem Ext.freeze (e : Ext S H S1 H1) {p o} (g : S1.G p = none) (n : H p = none) : Ext S H (S1.add p o) H1 :=
  ⟨e.pre, e.sg.trans (same_new g), fun a q => by
    by_cases z : a = p
    · rw [z]; exact .inr n
    · have q' : upd S1.G p o a ≠ none := q
      rw [upd_ne z] at q'
      exact e.fresh a q', e.frame, e.live, e.rfresh⟩
/-- another look at a thing that none of the store, of what is frozen, of the slots is -/
theorem wf_upd (w : Wf S H) {l o} (g : Ng S l) : Wf S (upd H l o) :=
  ⟨fun a u e => by
    have z : a ≠ l := fun z => by rw [z, g.g] at e; cases e
    rw [upd_ne z]; exact w.same _ _ e, w.frz, fun a m => by
    have z : a ≠ l := fun z => g.m (z ▸ m)
    obtain ⟨u, e, k⟩ := w.ins a m
    exact ⟨u, by rw [upd_ne z]; exact e, k⟩, w.ng⟩
theorem str_upd {st} (s : StR K Z S H st) {l o u} (hl : H l = some u) (g : Ng S l) (n : ¬ Sy u) : StR K Z S (upd H l o) st :=
  ⟨tabs_sy s.tab (sy_upd hl n), s.len, s.nd, s.dl, fun i ob e => (s.ob i ob e).to (fun _ q => q) Iff.rfl (fun a v q d z => by
    have y : a ≠ l := fun y => g.m (y ▸ ⟨i, q, d⟩)
    rw [upd_ne y]; exact z) (sy_upd hl n) fun _ _ q => q⟩
theorem SR.updS {σ env st} (r : SR K Z S σ H env st) {l o u} (hl : H l = some u) (g : Ng S l) (n : ¬ Sy u) (no : ∀ (i : Nat) (s : Slot), env[i]? = some (some s) → s.isAddr = true → σ[i]? ≠ some (some (V.ref l))) : SR K Z S σ (upd H l o) env st := by
  refine ⟨wf_upd r.wf g, str_upd r.str hl g n, r.len, fun i s e => ?_, r.sep⟩
  obtain ⟨x, h1, h2⟩ := r.sl i s e
  refine ⟨x, h1, ?_⟩
  cases s with
  | val v => exact h2
  | exn c => exact h2
  | fnv g => exact fnv_sy h2 (sy_upd hl n)
  | brw vs =>
    obtain ⟨a, xs, rfl, e2, e3⟩ := h2
    have z : a ≠ l := fun z => no i _ e rfl (z ▸ h1)
    exact ⟨a, xs, rfl, ⟨(upd_ne z).trans e2.h, e2.m⟩, e3⟩
  | brwd ks vs =>
    obtain ⟨a, xs, rfl, e2, e3⟩ := h2
    have z : a ≠ l := fun z => no i _ e rfl (z ▸ h1)
    exact ⟨a, xs, rfl, ⟨e2.h.imp (fun q => (upd_ne z).trans q) fun ⟨o, q⟩ => ⟨o, (upd_ne z).trans q⟩, e2.m⟩, e3⟩
  | lkd ks vs =>
    obtain ⟨a, xs, rfl, e2, e3⟩ := h2
    have z : a ≠ l := fun z => no i _ e rfl (z ▸ h1)
    exact ⟨a, xs, rfl, ⟨e2.h.imp fun o q => (upd_ne z).trans q, e2.m⟩, e3⟩
  | own vs =>
    obtain ⟨a, xs, rfl, e2, e3⟩ := h2
    have z : a ≠ l := fun z => no i _ e rfl (z ▸ h1)
    exact ⟨a, xs, rfl, (upd_ne z).trans e2, e3⟩
  | ownd ks vs =>
    obtain ⟨a, xs, rfl, e2, e3⟩ := h2
    have z : a ≠ l := fun z => no i _ e rfl (z ▸ h1)
    exact ⟨a, xs, rfl, (upd_ne z).trans e2, e3⟩
theorem Ext.updS (e : Ext S H S1 H1) {l o} (n : H l = none) : Ext S H S1 (upd H1 l o) :=
  ⟨e.pre, e.sg, e.fresh, fun a u h k => by
    rw [upd_ne (ne_of_none h n)]; exact e.frame a u h k, fun a h => by
    by_cases z : a = l
    · rw [z, upd_same]; simp
    · rw [upd_ne z]; exact e.live a h, e.rfresh⟩
/-- a result goes on as a value -/
theorem rr_fz {σ env st st1 r x} (r0 : SR K Z S σ H env st) (e : Ext S H S1 H1) (r1 : SR K Z S1 σ H1 env st1) (p : RR K Z S1 H H1 r x) (nd : ∀ ks vs, r ≠ .ownd ks vs) :
    ∃ S2, Ext S H S2 H1 ∧ SR K Z S2 σ H1 env st1 ∧ Rep K Z S2 r.v x ∧ Mon S1 S2 := by
  cases r with
  | val v => exact ⟨S1, e, r1, p, Mon.refl _⟩
  | own vs =>
    obtain ⟨l, xs, rfl, h1, h2, h3, h4⟩ := p
    have n : ¬ OwnA env σ l := fun z => own_live r0 z h3
    refine ⟨S1.add l (.lst xs), e.freeze h2.g h3, r1.freeze h1 trivial h2 n, ?_, mon_add h2.g⟩
    simp only [R.v, Rep]
    exact ⟨l, xs, rfl, upd_same, RepL.mono (mon_add h2.g) _ _ h4⟩
  | ownd ks vs => exact absurd rfl (nd ks vs)
/-- a dict that goes on as a value stands still from there on -/
theorem rr_fzd {σ env st st1 ks vs x} (r0 : SR K Z S σ H env st) (e : Ext S H S1 H1) (r1 : SR K Z S1 σ H1 env st1) (p : RR K Z S1 H H1 (.ownd ks vs) x) :
    ∃ l kxs, x = .ref l ∧ H1 l = some (.dK kxs) ∧ ∀ od, ∃ S2, Ext S H S2 (upd H1 l (.frz od (.dK kxs))) ∧ SR K Z S2 σ (upd H1 l (.frz od (.dK kxs))) env st1 ∧ Rep K Z S2 (.dic ks vs) x ∧ Mon S1 S2 := by
  obtain ⟨l, kxs, rfl, h1, h2, h3, h4, h5⟩ := p
  have no : ∀ (i : Nat) (s : Slot), env[i]? = some (some s) → s.isAddr = true → σ[i]? ≠ some (some (V.ref l)) := fun i s a b c => by
    obtain ⟨x, k1, k2⟩ := r0.sl i s a
    rw [c] at k1
    cases k1
    cases s with
    | val v => cases b
    | exn v => cases b
    | fnv v => cases b
    | brw v =>
      obtain ⟨a, xs, z, e2, e3⟩ := k2
      cases z
      rw [e2.h] at h3; cases h3
    | own v =>
      obtain ⟨a, xs, z, e2, e3⟩ := k2
      cases z
      rw [e2] at h3; cases h3
    | brwd k v =>
      obtain ⟨a, xs, z, e2, e3⟩ := k2
      cases z
      rcases e2.h with q | ⟨o, q⟩ <;> (rw [q] at h3; cases h3)
    | lkd k v =>
      obtain ⟨a, xs, z, e2, e3⟩ := k2
      cases z
      obtain ⟨o, q⟩ := e2.h
      rw [q] at h3; cases h3
    | ownd k v =>
      obtain ⟨a, xs, z, e2, e3⟩ := k2
      cases z
      rw [e2] at h3; cases h3
  refine ⟨l, kxs, rfl, h1, fun od => ?_⟩
  have r2 := r1.updS (o := .frz od (.dK kxs)) h1 h2 id no
  have n : ¬ OwnA env σ l := fun z => own_live r0 z h3
  refine ⟨S1.add l (.frz od (.dK kxs)), (e.updS h3).freeze h2.g h3, r2.freeze upd_same trivial h2 n, ?_, mon_add h2.g⟩
  simp only [Rep]
  exact ⟨l, kxs, rfl, ⟨od, upd_same⟩, h4, RepL.mono (mon_add h2.g) _ _ h5⟩
/-- .. in an expression's reading -/
def tFzd (t : TE) : TE := fun σ H Q => t σ H fun y H1 => Q y H1 ∨ ∃ l u, y = .ref l ∧ H1 l = some u ∧ Mut (some u) ∧ ∀ od, Q y (upd H1 l (.frz od u))
theorem pe_fzd {X : Cx} {e : Expr} {t : TE} (h : PE X e t) : PE X e (tFzd t) := ⟨fun pins s σ H Q I q => by
  refine wpAny_mono (h.run pins s σ H _ I q) (fun u s' p => ?_) fun _ _ z => z
  obtain ⟨v, H', i1, i2, i3⟩ := p
  rcases i3 with i3 | ⟨l, o, e1, e2, e3, e4⟩
  · exact ⟨v, H', i1, i2, i3⟩
  · obtain ⟨od, i4⟩ := i1.lock e2 e3
    exact ⟨v, _, i4, i2, e4 od⟩⟩
end
/-! ### values that go on; values that are looked at -/
def rpV (K : PySem.W.Frag) (Z : Stc) : Hp → Gh → Hp → Val → V → Prop := fun _ S _ v x => Rep K Z S v x
def rpVs (K : PySem.W.Frag) (Z : Stc) : Hp → Gh → Hp → List Val → List V → Prop := fun _ S _ vs xs => RepL K Z S vs xs
def PRepL (K : PySem.W.Frag) (Z : Stc) (S : Gh) (H : Hp) : List Val → List V → Prop
  | [], xs => xs = []
  | v :: vs, xs => ∃ x r, xs = x :: r ∧ PRep K Z S H v x ∧ PRepL K Z S H vs r
def PRepSL (K : PySem.W.Frag) (Z : Stc) (S : Gh) (H : Hp) : List Val → List V → Prop
  | [], xs => xs = []
  | v :: vs, xs => ∃ x r, xs = x :: r ∧ PRepS K Z S H v x ∧ PRepSL K Z S H vs r
theorem PRepSL.p {K : PySem.W.Frag} {Z : Stc} {S : Gh} {H : Hp} : ∀ {vs : List Val} {xs : List V}, PRepSL K Z S H vs xs → PRepL K Z S H vs xs
  | [], _, h => h
  | _ :: _, _, ⟨x, r, e, a, b⟩ => ⟨x, r, e, a.p, PRepSL.p b⟩
def rpPs (K : PySem.W.Frag) (Z : Stc) : Hp → Gh → Hp → List Val → List V → Prop := fun _ S H vs xs => PRepSL K Z S H vs xs
def rpAr (K : PySem.W.Frag) (Z : Stc) : Hp → Gh → Hp → Arg → V → Prop := fun _ S H a x => ArR K Z S H a x
abbrev D1 := Evn → Store → Out Arg
def MV (Z : Stc) (X : Cx) (W : WX) (e : Expr) (d : DP) : Prop := ∃ t, PE X e t ∧ Snd X.K Z W (rpV X.K Z) t d
def MVs (Z : Stc) (X : Cx) (W : WX) (es : List Expr) (d : Evn → Store → Out (List Val)) : Prop := ∃ t, PA X es t ∧ Snd X.K Z W (rpVs X.K Z) t d
def MPs (Z : Stc) (X : Cx) (W : WX) (es : List Expr) (d : Evn → Store → Out (List Val)) : Prop := ∃ t, PA X es t ∧ Snd X.K Z W (rpPs X.K Z) t d
def M1 (Z : Stc) (X : Cx) (W : WX) (e : Expr) (d : D1) : Prop := ∃ t, PE X e t ∧ Snd X.K Z W (rpAr X.K Z) t d
@[simp] def dV (d : DE) : DP := fun env st => (d env st).bind fun r st => .ok r.v st
@[simp] def dVals : List DP → Evn → Store → Out (List Val)
  | [], _, st => .ok [] st
  | d :: ds, env, st => (d env st).bind fun v st => (dVals ds env st).bind fun vs st => .ok (v :: vs) st
theorem dVals_length : ∀ {ds : List DP} {env st vs st'}, dVals ds env st = .ok vs st' → vs.length = ds.length
  | [], _, _, _, _, h => by cases h; rfl
  | d :: ds, env, st, vs, st', h => by
    simp only [dVals] at h
    cases e : d env st with
    | bad => simp only [e, Out.bind] at h; cases h
    | exc c fs st1 => simp only [e, Out.bind] at h; cases h
    | ok v st1 =>
      simp only [e, Out.bind] at h
      cases e2 : dVals ds env st1 with
      | bad => simp only [e2] at h; cases h
      | exc c fs st1 => simp only [e2] at h; cases h
      | ok ws st2 =>
        simp only [e2] at h
        cases h
        rw [List.length_cons, List.length_cons, dVals_length e2]
@[simp] def dArgs : List D1 → DA
  | [], _, st => .ok [] st
  | d :: ds, env, st => (d env st).bind fun v st => (dArgs ds env st).bind fun vs st => .ok (v :: vs) st
section
variable {Z : Stc} {X : Cx} {W : WX}
theorem snd_v {K : PySem.W.Frag} {t : TE} {d : DE} (h : Snd K Z W (rpE K Z) t d) : Snd K Z W (rpV K Z) (tFzd t) (dV d) := by
  intro S σ H env st Q r p
  refine h S σ H env st _ r ?_
  simp only [dV] at p
  cases e : d env st with
  | bad => simp only [e, Out.bind, Post] at p
  | exc c fs st1 =>
    simp only [e, Out.bind, Post] at p ⊢
    exact p
  | ok a st1 =>
    simp only [e, Out.bind, Post] at p ⊢
    intro y S' H' e1 w s q
    by_cases nd : ∀ ks vs, a ≠ .ownd ks vs
    · obtain ⟨S2, e2, r2, q2, m2⟩ := rr_fz r e1 (r.ext e1 w s) q nd
      exact .inl (p y S2 H' e2 r2.wf r2.str q2)
    · cases a with
      | ownd ks vs =>
        obtain ⟨l, kxs, rfl, hl, k⟩ := rr_fzd r e1 (r.ext e1 w s) q
        refine .inr ⟨l, _, rfl, hl, trivial, fun od => ?_⟩
        obtain ⟨S2, e2, r2, q2, m2⟩ := k od
        exact p _ S2 _ e2 r2.wf r2.str q2
      | val v => exact absurd (fun ks vs z => by cases z) nd
      | own v => exact absurd (fun ks vs z => by cases z) nd
theorem mv_of {e : Expr} {d : DE} (h : ME Z X W e d) : MV Z X W e (dV d) := let ⟨t, h1, h2⟩ := h; ⟨tFzd t, pe_fzd h1, snd_v h2⟩
theorem mp_of {e : Expr} {d : DE} (h : ME Z X W e d) : MP Z X W e (dV d) := me_mp h
theorem me_of_mv {e : Expr} {d : DP} (h : MV Z X W e d) : ME Z X W e (fun env st => (d env st).bind fun v st => .ok (.val v) st) := by
  obtain ⟨t, h1, h2⟩ := h
  refine ⟨t, h1, fun S σ H env st Q r p => h2 S σ H env st Q r ?_⟩
  cases e : d env st with
  | bad => simp only [e, Out.bind, Post] at p
  | exc c fs st1 =>
    simp only [e, Out.bind, Post] at p ⊢
    exact p
  | ok a st1 =>
    simp only [e, Out.bind, Post] at p ⊢
    exact p
theorem m1_val {e : Expr} {d : DP} (h : MV Z X W e d) : M1 Z X W e (fun env st => (d env st).bind fun v st => .ok (.val v) st) := by
  obtain ⟨t, h1, h2⟩ := h
  refine ⟨t, h1, fun S σ H env st Q r p => h2 S σ H env st Q r ?_⟩
  cases e : d env st with
  | bad => simp only [e, Out.bind, Post] at p
  | exc c fs st1 =>
    simp only [e, Out.bind, Post] at p ⊢
    exact p
  | ok a st1 =>
    simp only [e, Out.bind, Post] at p ⊢
    exact p
@[simp] def toBrw : Val → Store → Out Arg
  | .lst vs, st => .ok (.brw vs) st | .dic ks vs, st => .ok (.brwd ks vs) st | _, _ => .bad
theorem PRepS.brw {K : PySem.W.Frag} {S : Gh} {H : Hp} {vs : List Val} {x : V} (h : PRepS K Z S H (.lst vs) x) : ∃ l xs, x = .ref l ∧ HL S H l (.lst xs) ∧ RepL K Z S vs xs := by
  obtain ⟨⟨l, xs, rfl, q, r⟩, n⟩ := h
  exact ⟨l, xs, rfl, ⟨q, n l rfl⟩, r⟩
theorem PRepS.brwd {K : PySem.W.Frag} {S : Gh} {H : Hp} {ks : List Key} {vs : List Val} {x : V} (h : PRepS K Z S H (.dic ks vs) x) : ∃ l kxs, x = .ref l ∧ HD S H l (.dK kxs) ∧ kxs.map (·.1) = ks ∧ RepL K Z S vs (kxs.map (·.2)) := by
  obtain ⟨⟨l, xs, rfl, q, k, r⟩, n⟩ := h
  exact ⟨l, xs, rfl, ⟨q, n l rfl⟩, k, r⟩
/-- lent to a call -/
theorem m1_brw {e : Expr} {d : DP} (h : MP Z X W e d) : M1 Z X W e (fun env st => (d env st).bind toBrw) := by
  obtain ⟨t, h1, h2⟩ := h
  refine ⟨t, h1, fun S σ H env st Q r p => h2 S σ H env st Q r ?_⟩
  cases e : d env st with
  | bad => simp only [e, Out.bind, Post] at p
  | exc c fs st1 =>
    simp only [e, Out.bind, Post] at p ⊢
    exact p
  | ok a st1 =>
    cases a with
    | lst vs =>
      simp only [e, Out.bind, toBrw, Post] at p ⊢
      exact fun y S' H' e w s q => p y S' H' e w s q.brw
    | dic ks vs =>
      simp only [e, Out.bind, toBrw, Post] at p ⊢
      exact fun y S' H' e w s q => p y S' H' e w s q.brwd
    | _ => simp only [e, Out.bind, toBrw, Post] at p
@[simp] def dA1 (d : DP) : D1 := fun env st => (d env st).bind fun v st => .ok (.val v) st
@[simp] def dB1 (d : DP) : D1 := fun env st => (d env st).bind toBrw

/-- two things in turn, the first one kept by extensions -/
theorem snd_pair {K : PySem.W.Frag} {α β : Type} {RPa : Hp → Gh → Hp → α → β → Prop} {RPs : Hp → Gh → Hp → List α → List β → Prop} {ta : CT β} {tr : CT (List β)} {da : Evn → Store → Out α} {dr : Evn → Store → Out (List α)}
    (hk : ∀ H S1 H1 S2 H2 a y, Wf S1 H1 → Ext S1 H1 S2 H2 → RPa H S1 H1 a y → RPa H S2 H2 a y)
    (hc : ∀ H H1 S H2 a as y ys, RPa H S H2 a y → RPs H1 S H2 as ys → RPs H S H2 (a :: as) (y :: ys))
    (ha : Snd K Z W RPa ta da) (hr : Snd K Z W RPs tr dr) :
    Snd K Z W RPs (fun σ H Q => ta σ H fun y H1 => tr σ H1 fun ys H2 => Q (y :: ys) H2) (fun env st => (da env st).bind fun v st => (dr env st).bind fun vs st => .ok (v :: vs) st) := by
  refine snd_bind (RPb := RPs) (tb := fun y σ H Q => tr σ H fun ys H2 => Q (y :: ys) H2) (db := fun v env st => (dr env st).bind fun vs st => .ok (v :: vs) st) ha ?_
  intro S σ H env st Q v x S1 H1 st1 r e1 r1 p1 po
  refine hr S1 σ H1 env st1 _ r1 ?_
  cases e : dr env st1 with
  | bad => simp only [e, Out.bind, Post] at po
  | exc c fs st2 =>
    simp only [e, Out.bind, Post] at po ⊢
    exact po
  | ok vs st2 =>
    simp only [e, Out.bind, Post] at po ⊢
    intro ys S2 H2 e2 w2 s2 p2
    exact po (x :: ys) S2 H2 e2 w2 s2 (hc _ _ _ _ _ _ _ _ (hk H S1 H1 S2 H2 v x r1.wf e2 p1) p2)
theorem snd_nil {K : PySem.W.Frag} {α : Type} {RPs : Hp → Gh → Hp → List α → List V → Prop} (h : ∀ H S H', RPs H S H' [] []) : Snd K Z W RPs tNil (fun _ st => .ok [] st) :=
  fun S σ H env st Q r p => p [] S H (Ext.refl S H) r.wf r.str (h _ _ _)
theorem mvs_nil : MVs Z X W [] (dVals []) := ⟨_, pa_nil, snd_nil (RPs := rpVs X.K Z) fun _ _ _ => repL_nil⟩
theorem mvs_cons {e : Expr} {es : List Expr} {d : DP} {ds : List DP} (h : MV Z X W e d) (h' : MVs Z X W es (dVals ds)) (hs : starEach (e :: es) X.env = (false, eval e X.env) :: starEach es X.env := by rfl) : MVs Z X W (e :: es) (dVals (d :: ds)) := by
  obtain ⟨t, h1, h2⟩ := h
  obtain ⟨t', h3, h4⟩ := h'
  exact ⟨_, pa_cons h1 h3 hs, snd_pair (RPa := rpV X.K Z) (RPs := rpVs X.K Z) (fun _ _ _ _ _ _ _ _ e q => Rep.mono e.mon _ _ q) (fun _ _ _ _ _ _ _ _ a b => repL_cons a b) h2 h4⟩
theorem mps_nil : MPs Z X W [] (dVals []) := ⟨_, pa_nil, snd_nil (RPs := rpPs X.K Z) fun _ _ _ => by simp only [rpPs, PRepSL]⟩
theorem mps_cons {e : Expr} {es : List Expr} {d : DP} {ds : List DP} (h : MP Z X W e d) (h' : MPs Z X W es (dVals ds)) (hs : starEach (e :: es) X.env = (false, eval e X.env) :: starEach es X.env := by rfl) : MPs Z X W (e :: es) (dVals (d :: ds)) := by
  obtain ⟨t, h1, h2⟩ := h
  obtain ⟨t', h3, h4⟩ := h'
  exact ⟨_, pa_cons h1 h3 hs, snd_pair (RPa := rpP X.K Z) (RPs := rpPs X.K Z) (fun _ _ _ _ _ _ _ w e q => PRepS.ext w e q) (fun _ _ _ _ _ _ _ _ a b => by simp only [rpPs, PRepSL]; exact ⟨_, _, rfl, a, b⟩) h2 h4⟩
theorem ArR.ext {K : PySem.W.Frag} {S S' : Gh} {H H' : Hp} (w : Wf S H) (e : Ext S H S' H') {a x} (h : ArR K Z S H a x) : ArR K Z S' H' a x := by
  cases a with
  | val v => exact Rep.mono e.mon _ _ h
  | fnv g => exact FnvR.ext w e h
  | brw vs =>
    obtain ⟨l, xs, e1, e2, e3⟩ := h
    exact ⟨l, xs, e1, e2.ext e, RepL.mono e.mon _ _ e3⟩
  | brwd ks vs =>
    obtain ⟨l, xs, e1, e2, e3, e4⟩ := h
    exact ⟨l, xs, e1, e2.ext e, e3, RepL.mono e.mon _ _ e4⟩
theorem ma_nil : MA Z X W [] (dArgs []) := ⟨_, pa_nil, snd_nil (RPs := rpA X.K Z) fun _ _ _ => by simp only [rpA, ArsR]⟩
theorem ma_cons {e : Expr} {es : List Expr} {d : D1} {ds : List D1} (h : M1 Z X W e d) (h' : MA Z X W es (dArgs ds)) (hs : starEach (e :: es) X.env = (false, eval e X.env) :: starEach es X.env := by rfl) : MA Z X W (e :: es) (dArgs (d :: ds)) := by
  obtain ⟨t, h1, h2⟩ := h
  obtain ⟨t', h3, h4⟩ := h'
  exact ⟨_, pa_cons h1 h3 hs, snd_pair (RPa := rpAr X.K Z) (RPs := rpA X.K Z) (fun _ _ _ _ _ _ _ w e q => ArR.ext w e q) (fun _ _ _ _ _ _ _ _ a b => by simp only [rpA, ArsR]; exact ⟨_, _, rfl, a, b⟩) h2 h4⟩

/-! ### displays -/
@[simp] def dTup (ds : List DP) : DE := fun env st => (dVals ds env st).bind fun vs st => .ok (.val (.tup vs)) st
@[simp] def dLst (ds : List DP) : DE := fun env st => (dVals ds env st).bind fun vs st => .ok (.own vs) st
theorem small_line {n : Nat} (h : n ≤ 1000) : n ≤ sizeLine := Nat.le_trans h (by decide)
theorem me_tup {es : List Expr} {x1} {pos : Pos} {ds : List DP} (h : MVs Z X W es (dVals ds)) (hl : ds.length ≤ 1000 := by decide) : ME Z X W (.Tuple es x1 pos) (dTup ds) := by
  obtain ⟨t, h1, h2⟩ := h
  refine ⟨_, pe_tup h1, ?_⟩
  intro S σ H env st Q r p
  refine h2 S σ H env st _ r ?_
  simp only [dTup] at p
  cases e : dVals ds env st with
  | bad => simp only [e, Out.bind, Post] at p
  | exc c fs st1 =>
    simp only [e, Out.bind, Post] at p ⊢
    exact p
  | ok vs st1 =>
    simp only [e, Out.bind, Post] at p ⊢
    intro xs S1 H1 e1 w1 s1 q1
    have hlen : xs.length = ds.length := (repL_length q1).symm.trans (dVals_length e)
    refine ⟨by rw [hlen]; exact small_line hl, fun pp hp => ?_⟩
    have E := ExtP.newF w1 hp (o := .tup xs) trivial
    refine p _ (S1.add pp (.tup xs)) _ (e1.trans E.ext) E.wf (s1.extP E) ?_
    simp only [rpE, RR, Rep]
    exact ⟨pp, xs, rfl, .inl (.inl upd_same), RepL.mono E.ext.mon _ _ q1⟩
theorem me_lst {es : List Expr} {pos : Pos} {ds : List DP} (h : MVs Z X W es (dVals ds)) (hl : ds.length ≤ 1000 := by decide) : ME Z X W (.List es pos) (dLst ds) := by
  obtain ⟨t, h1, h2⟩ := h
  refine ⟨_, pe_lst h1, ?_⟩
  intro S σ H env st Q r p
  refine h2 S σ H env st _ r ?_
  simp only [dLst] at p
  cases e : dVals ds env st with
  | bad => simp only [e, Out.bind, Post] at p
  | exc c fs st1 =>
    simp only [e, Out.bind, Post] at p ⊢
    exact p
  | ok vs st1 =>
    simp only [e, Out.bind, Post] at p ⊢
    intro xs S1 H1 e1 w1 s1 q1
    have hlen : xs.length = ds.length := (repL_length q1).symm.trans (dVals_length e)
    refine ⟨by rw [hlen]; exact small_line hl, fun pp hp => ?_⟩
    have E := ExtP.new w1 hp (o := .lst xs)
    refine p _ S1 _ (e1.trans E.ext) E.wf (s1.extP E) ?_
    exact ⟨pp, xs, rfl, upd_same, ng_none w1 hp, none_of_live e1.live hp, q1⟩

/-! ### subscripts, slices -/
@[simp] def gIx : Val → Val → Option R
  | .lst vs, .int i => (atI vs i).map R.val
  | .slst vs, .int i => (atI vs i).map R.val
  | .tup vs, .int i => (atI vs i).map R.val
  | .str z, .int i => if z.length ≤ sizeLine then (atI z.cps.toList i).map fun c => R.val (.str ⟨#[c]⟩) else none
  | _, _ => none
theorem atI_rep {K : PySem.W.Frag} {S : Gh} {vs : List Val} {xs : List V} {i : Int} {v : Val} (r : RepL K Z S vs xs) (h : atI vs i = some v) : ∃ x, atI xs i = some x ∧ Rep K Z S v x := by
  unfold atI at h ⊢
  rw [← repL_length r]
  cases e : ixN vs.length i with
  | none => rw [e] at h; cases h
  | some j =>
    rw [e] at h
    exact repL_get r h
theorem map_val {o : Option Val} {r : R} (h : o.map R.val = some r) : ∃ v, o = some v ∧ r = .val v := by
  cases o with
  | none => cases h
  | some v => cases h; exact ⟨v, rfl, rfl⟩
theorem ixs : IxR X (rG X.K Z gIx) := by
  intro ve se pins s σ H x y v u Q I rx ry ⟨S, a, b, r, w, pa, pb, eg, q⟩ hsub
  unfold gIx at eg
  split at eg
  · rename_i vs i
    obtain ⟨v', e, rfl⟩ := map_val eg
    obtain ⟨l, xs, rfl, hl, r1⟩ := pa
    obtain ⟨x', e1, e2⟩ := atI_rep r1 e
    exact ix_list ve se pins s σ H _ _ v u Q I rx ry ⟨l, xs, i, x', rfl, by simpa only [PRep, Rep] using pb, .inl (.inl hl), e1, q_val w q e2⟩ hsub
  · rename_i vs i
    obtain ⟨v', e, rfl⟩ := map_val eg
    simp only [PRep, Rep] at pa
    obtain ⟨l, xs, rfl, hl, r1⟩ := pa
    obtain ⟨x', e1, e2⟩ := atI_rep r1 e
    exact ix_list ve se pins s σ H _ _ v u Q I rx ry ⟨l, xs, i, x', rfl, by simpa only [PRep, Rep] using pb, sqL_at (w.same l) hl, e1, q_val w q e2⟩ hsub
  · rename_i vs i
    obtain ⟨v', e, rfl⟩ := map_val eg
    simp only [PRep, Rep] at pa
    obtain ⟨l, xs, rfl, hl, r1⟩ := pa
    obtain ⟨x', e1, e2⟩ := atI_rep r1 e
    exact ix_tup ve se pins s σ H _ _ v u Q I rx ry ⟨l, xs, i, x', rfl, by simpa only [PRep, Rep] using pb, sqT_mono w.same hl, e1, q_val w q e2⟩ hsub
  · rename_i z i
    split at eg
    · rename_i hz
      cases e : atI z.cps.toList i with
      | none => rw [e] at eg; cases eg
      | some c =>
        rw [e] at eg
        cases eg
        exact ix_str ve se pins s σ H _ _ v u Q I rx ry ⟨z, i, c, by simpa only [PRep, Rep] using pa, by simpa only [PRep, Rep] using pb, hz, e, q_val w q (by simp only [Rep])⟩ hsub
    · cases eg
  · cases eg
theorem me_ix {a b : Expr} {da db : DP} {pos : Pos} (ha : MP Z X W a da) (hb : MP Z X W b db) (hs : PlainIx b := by exact fun _ _ => rfl) : ME Z X W (.Subscript a b pos) (dOp gIx da db) := by
  obtain ⟨ta, h1, h2⟩ := ha
  obtain ⟨tb, h3, h4⟩ := hb
  exact ⟨_, pe_ix ixs h1 h3 hs, snd_op h2 h4⟩
def cutW (xs : List Val) (lo hi : Option Int) : List Val := (xs.drop (HT.sIx xs.length 0 lo)).take (HT.sIx xs.length xs.length hi - HT.sIx xs.length 0 lo)
@[simp] def gSl : Val → Option Int → Option Int → Option R
  | .lst vs, lo, hi => some (.own (cutW vs lo hi))
  | .slst vs, lo, hi => some (.own (cutW vs lo hi))
  | .tup vs, lo, hi => some (.val (.tup (cutW vs lo hi)))
  | .str z, lo, hi => if z.length ≤ sizeLine then some (.val (.str (cutS z lo hi))) else none
  | _, _, _ => none
def rSg (K : PySem.W.Frag) (Z : Stc) : V → Option Int → Option Int → Hp → VK → Prop := fun x lo hi H Q => ∃ S v r, Wf S H ∧ PRep K Z S H v x ∧ gSl v lo hi = some r ∧ ∀ x' S' H', ExtP S H S' H' → RR K Z S' H H' r x' → Q x' H'
theorem cut_rep {K : PySem.W.Frag} {S : Gh} {vs : List Val} {xs : List V} (r : RepL K Z S vs xs) (lo hi : Option Int) : RepL K Z S (cutW vs lo hi) (cutV xs lo hi) := by
  unfold cutW cutV
  rw [repL_length r]
  exact repL_take _ (repL_drop _ r)
theorem sls : L2.SlR X (rSg X.K Z) := by
  intro pins s σ H x v vl vu lo hi sl Q I rx hs pl pu ⟨S, a, r, w, pa, eg, q⟩
  unfold gSl at eg
  split at eg
  · cases eg
    obtain ⟨l, xs, rfl, hl, r1⟩ := pa
    exact sl_list pins s σ H _ v vl vu lo hi sl Q I rx hs pl pu ⟨l, xs, rfl, .inl (.inl hl), q_own w q (cut_rep r1 lo hi)⟩
  · cases eg
    simp only [PRep, Rep] at pa
    obtain ⟨l, xs, rfl, hl, r1⟩ := pa
    exact sl_list pins s σ H _ v vl vu lo hi sl Q I rx hs pl pu ⟨l, xs, rfl, sqL_at (w.same l) hl, q_own w q (cut_rep r1 lo hi)⟩
  · rename_i vs
    cases eg
    simp only [PRep, Rep] at pa
    obtain ⟨l, xs, rfl, hl, r1⟩ := pa
    refine sl_tupA pins s σ H _ v vl vu lo hi sl Q I rx hs pl pu ⟨l, xs, rfl, sqT_mono w.same hl, fun hw => ?_, fun _ p hp => ?_⟩
    · refine q_val w q ?_
      have e : cutW vs lo hi = vs := by
        rw [← repL_length r1] at hw
        unfold cutW
        rw [hw.1, hw.2, List.drop_zero, Nat.sub_zero, List.take_length]
      rw [e]
      simp only [Rep]
      exact ⟨l, xs, rfl, hl, r1⟩
    · refine q _ (S.add p (.tup (cutV xs lo hi))) _ (ExtP.newF w hp trivial) ?_
      simp only [RR, Rep]
      exact ⟨p, _, rfl, .inl (.inl upd_same), RepL.mono (mon_add (ng_of w hp)) _ _ (cut_rep r1 lo hi)⟩
  · split at eg
    · rename_i z hz
      cases eg
      exact sl_str pins s σ H _ v vl vu lo hi sl Q I rx hs pl pu ⟨_, by simpa only [PRep, Rep] using pa, hz, q_val w q (by simp only [Rep])⟩
    · cases eg
  · cases eg
abbrev DO := Evn → Store → Out (Option Int)
def rpO : Hp → Gh → Hp → Option Int → Option Int → Prop := fun _ _ _ a b => a = b
def MO (Z : Stc) (X : Cx) (W : WX) (e : Option Expr) (d : DO) : Prop := ∃ t, PO X e t ∧ Snd X.K Z W rpO t d
@[simp] def dNoPart : DO := fun _ st => .ok none st
@[simp] def dPart (d : DP) : DO := fun env st => (d env st).bind fun v st => match v with | .int i => .ok (some i) st | _ => .bad
theorem mo_none : MO Z X W none dNoPart := ⟨_, po_none, fun S σ H env st Q r p => p none S H (Ext.refl S H) r.wf r.str rfl⟩
theorem mo_some {e : Expr} {d : DP} (h : MP Z X W e d) : MO Z X W (some e) (dPart d) := by
  obtain ⟨t, h1, h2⟩ := h
  refine ⟨_, po_some h1, ?_⟩
  refine snd_bind (RPb := rpO) (tb := fun x σ H Q => ∃ i, x = .int i ∧ Q (some i) H) (db := fun v env st => match v with | .int i => .ok (some i) st | _ => .bad) h2 ?_
  intro S σ H env st Q v x S1 H1 st1 r e1 r1 p1 po
  cases v with
  | int i => exact ⟨i, by simpa only [PRep, Rep] using p1.p, po (some i) S1 H1 (Ext.refl _ _) r1.wf r1.str rfl⟩
  | _ => exact po.elim
@[simp] def dSl (d : DP) (lo hi : DO) : DE := fun env st => (d env st).bind fun v st => (lo env st).bind fun l st => (hi env st).bind fun h st => fromO (gSl v l h) st
theorem me_sl {e : Expr} {lo hi : Option Expr} {d : DP} {dl dh : DO} {pos p2 : Pos} (h : MP Z X W e d) (hl : MO Z X W lo dl) (hh : MO Z X W hi dh) : ME Z X W (.Subscript e (.Slice lo hi none p2) pos) (dSl d dl dh) := by
  obtain ⟨t, h1, h2⟩ := h
  obtain ⟨tl, h3, h4⟩ := hl
  obtain ⟨th, h5, h6⟩ := hh
  refine ⟨_, pe_slice (sls (Z := Z)) h1 h3 h5, ?_⟩
  refine snd_bind (RPb := rpE X.K Z) (tb := fun x σ H Q => tl σ H fun l H2 => th σ H2 fun u H3 => rSg X.K Z x l u H3 Q) (db := fun v env st => (dl env st).bind fun l st => (dh env st).bind fun h st => fromO (gSl v l h) st) h2 ?_
  intro S σ H env st Q v x S1 H1 st1 r e1 r1 p1 po
  refine h4 S1 σ H1 env st1 _ r1 ?_
  cases e : dl env st1 with
  | bad => simp only [e, Out.bind, Post] at po
  | exc c fs st2 =>
    simp only [e, Out.bind, Post] at po ⊢
    exact po
  | ok l st2 =>
    simp only [e, Out.bind] at po
    intro l' S2 H2 e2 w2 s2 q2
    have ql : l = l' := q2
    subst ql
    have r2 := r1.ext e2 w2 s2
    refine h6 S2 σ H2 env st2 _ r2 ?_
    cases ee : dh env st2 with
    | bad => simp only [ee, Post] at po
    | exc c fs st3 =>
      simp only [ee, Post] at po ⊢
      exact fun cls d S' H' e3 w3 s3 x3 => po cls d S' H' (e2.trans e3) w3 s3 x3
    | ok h st3 =>
      simp only [ee] at po
      intro h' S3 H3 e3 w3 s3 q3
      have qh : h = h' := q3
      subst qh
      cases eg : gSl v l h with
      | none => simp only [eg, fromO, Post] at po
      | some res =>
        simp only [eg, fromO, Post] at po
        refine ⟨S3, v, res, w3, (PRepS.ext r2.wf e3 (PRepS.ext r1.wf e2 p1)).p, eg, fun x' S' H' e4 rr => ?_⟩
        exact po x' S' H' ((e2.trans e3).trans e4.ext) e4.wf (s3.extP e4) (rr.back fun a hh => e3.live a (e2.live a (e1.live a hh)))

/-! ### -x -/
@[simp] def gNeg : Val → Option R
  | .int i => some (.val (.int (-i)))
  | _ => none
@[simp] def dUn (g : Val → Option R) (d : DP) : DE := fun env st => (d env st).bind fun v st => fromO (g v) st
theorem me_neg {a : Expr} {d : DP} {pos : Pos} (h : MP Z X W a d) : ME Z X W (.UnaryOp .USub a pos) (dUn gNeg d) := by
  obtain ⟨t, h1, h2⟩ := h
  refine ⟨_, pe_un un_neg h1, ?_⟩
  refine snd_bind (RPb := rpE X.K Z) (tb := fun x σ H Q => rU (fun i => .int (-i)) x H Q) (db := fun v env st => fromO (gNeg v) st) h2 ?_
  intro S σ H env st Q v x S1 H1 st1 r e1 r1 p1 po
  cases v with
  | int i => exact ⟨i, by simpa only [PRep, Rep] using p1.p, po _ S1 H1 (Ext.refl _ _) r1.wf r1.str (by simp only [rpE, RR, Rep])⟩
  | _ => exact po.elim

/-! ### built-ins by values -/
def rC (K : PySem.W.Frag) (Z : Stc) (g : List Val → Option R) : List V → Hp → VK → Prop := fun xs H Q => ∃ S vs r, Wf S H ∧ PRepL K Z S H vs xs ∧ g vs = some r ∧ ∀ x' S' H', ExtP S H S' H' → RR K Z S' H H' r x' → Q x' H'
@[simp] def dCB (g : List Val → Option R) (ds : List DP) : DE := fun env st => (dVals ds env st).bind fun vs st => fromO (g vs) st
theorem snd_cb {K : PySem.W.Frag} {ta : TA} {g : List Val → Option R} {ds : List DP} (h : Snd K Z W (rpPs K Z) ta (dVals ds)) : Snd K Z W (rpE K Z) (tCB (rC K Z g) ta) (dCB g ds) := by
  refine snd_bind (RPb := rpE K Z) (tb := fun xs σ H Q => rC K Z g xs H Q) (db := fun vs env st => fromO (g vs) st) h ?_
  intro S σ H env st Q vs xs S1 H1 st1 r e1 r1 p1 po
  cases eg : g vs with
  | none => simp only [eg, fromO, Post] at po
  | some res =>
    simp only [eg, fromO, Post] at po
    exact ⟨S1, vs, res, r1.wf, p1.p, eg, fun x' S' H' e4 rr => po x' S' H' e4.ext e4.wf (r1.str.extP e4) (rr.back e1.live)⟩
theorem me_cb {x : Str} {id : String} {g : List Val → Option R} {e : Expr} {es : List Expr} {ds : List DP} {p pos : Pos} (hc : CallR X (.builtin id) (rC X.K Z g)) (hg : Gl X x) (hm : X.mg x = none) (hv : bootBuiltins x = some (.builtin id)) (ha : MPs Z X W (e :: es) (dVals ds))
    (hn : x ≠ "__name__" := by decide) (hdb : (x == ("__debug__" : Str)) = false := by decide)
    (he : starEach (e :: es) X.env = (false, eval e X.env) :: starEach es X.env := by rfl) (hpl : (backTo pos (starEach es X.env)).any (·.1) = false := by rfl) : ME Z X W (.Call (.Name x p) (e :: es) [] pos) (dCB g ds) := by
  obtain ⟨t, h1, h2⟩ := ha
  exact ⟨_, pe_callB hc hg hm hv h1 hn hdb he hpl, snd_cb h2⟩
theorem me_ct {x : Str} {T : String} {g : List Val → Option R} {e : Expr} {es : List Expr} {ds : List DP} {p pos : Pos} (hc : CallR X (.type T) (rC X.K Z g)) (hg : Gl X x) (hm : X.mg x = none) (hv : bootBuiltins x = some (.type T)) (ha : MPs Z X W (e :: es) (dVals ds))
    (hn : x ≠ "__name__" := by decide) (hdb : (x == ("__debug__" : Str)) = false := by decide)
    (he : starEach (e :: es) X.env = (false, eval e X.env) :: starEach es X.env := by rfl) (hpl : (backTo pos (starEach es X.env)).any (·.1) = false := by rfl) : ME Z X W (.Call (.Name x p) (e :: es) [] pos) (dCB g ds) := by
  obtain ⟨t, h1, h2⟩ := ha
  exact ⟨_, pe_callTy hc hg hm hv h1 hn hdb he hpl, snd_cb h2⟩
theorem prep1 {K : PySem.W.Frag} {S : Gh} {H : Hp} {v : Val} {xs : List V} (h : PRepL K Z S H [v] xs) : ∃ x, xs = [x] ∧ PRep K Z S H v x := by
  simp only [PRepL] at h
  obtain ⟨x, r, rfl, h1, rfl⟩ := h
  exact ⟨x, rfl, h1⟩
theorem prep2 {K : PySem.W.Frag} {S : Gh} {H : Hp} {v w : Val} {xs : List V} (h : PRepL K Z S H [v, w] xs) : ∃ x y, xs = [x, y] ∧ PRep K Z S H v x ∧ PRep K Z S H w y := by
  simp only [PRepL] at h
  obtain ⟨x, r, rfl, h1, y, r2, rfl, h2, rfl⟩ := h
  exact ⟨x, y, rfl, h1, h2⟩
/-- a list's or tuple's items, looked at -/
@[simp] def itemsOf : Val → Option (List Val)
  | .lst vs => some vs | .slst vs => some vs | .tup vs => some vs | _ => none
theorem items_rep {K : PySem.W.Frag} {S : Gh} {H : Hp} {v : Val} {x : V} {vs : List Val} (w : Wf S H) (h : PRep K Z S H v x) (e : itemsOf v = some vs) : ∃ a xs, x = .ref a ∧ (SqL K H a xs ∨ SqT K H a xs) ∧ RepL K Z S vs xs := by
  cases v with
  | lst ws =>
    cases e
    obtain ⟨l, xs, rfl, hl, r1⟩ := h
    exact ⟨l, xs, rfl, .inl (.inl (.inl hl)), r1⟩
  | slst ws =>
    cases e
    simp only [PRep, Rep] at h
    obtain ⟨l, xs, rfl, hl, r1⟩ := h
    exact ⟨l, xs, rfl, .inl (sqL_at (w.same l) hl), r1⟩
  | tup ws =>
    cases e
    simp only [PRep, Rep] at h
    obtain ⟨l, xs, rfl, hl, r1⟩ := h
    exact ⟨l, xs, rfl, .inr (sqT_mono w.same hl), r1⟩
  | _ => cases e
/-- a list's items -/
@[simp] def lstOf : Val → Option (List Val)
  | .lst vs => some vs | .slst vs => some vs | _ => none
theorem lst_rep {K : PySem.W.Frag} {S : Gh} {H : Hp} {v : Val} {x : V} {vs : List Val} (w : Wf S H) (h : PRep K Z S H v x) (e : lstOf v = some vs) : ∃ a xs, x = .ref a ∧ SqL K H a xs ∧ RepL K Z S vs xs := by
  cases v with
  | lst ws =>
    cases e
    obtain ⟨l, xs, rfl, hl, r1⟩ := h
    exact ⟨l, xs, rfl, .inl (.inl hl), r1⟩
  | slst ws =>
    cases e
    simp only [PRep, Rep] at h
    obtain ⟨l, xs, rfl, hl, r1⟩ := h
    exact ⟨l, xs, rfl, sqL_at (w.same l) hl, r1⟩
  | _ => cases e
@[simp] def gLen : List Val → Option R
  | [.str z] => if z.length ≤ sizeLine then some (.val (.int z.length)) else none
  | [v] => (itemsOf v).map fun vs => .val (.int vs.length)
  | _ => none
theorem cs_len : CallR X (.builtin "len") (rC X.K Z gLen) := by
  intro pins s σ H xs us Q I rs ⟨S, vs, r, w, pr, eg, q⟩
  unfold gLen at eg
  split at eg
  · split at eg
    · rename_i z hz
      cases eg
      obtain ⟨x, rfl, p1⟩ := prep1 pr
      have e : x = V.str z := by simpa only [PRep, Rep] using p1
      exact call_len_str pins s σ H _ us Q I rs ⟨z, by rw [e], hz, q_val w q (by simp only [Rep])⟩
    · cases eg
  · rename_i v _
    cases e : itemsOf v with
    | none => rw [e] at eg; cases eg
    | some ws =>
      rw [e] at eg
      cases eg
      obtain ⟨x, rfl, p1⟩ := prep1 pr
      obtain ⟨a, ys, rfl, hs, r1⟩ := items_rep w p1 e
      exact call_len_seq pins s σ H _ us Q I rs ⟨a, ys, rfl, hs, q_val w q (by simp only [Rep, repL_length r1])⟩
  · cases eg
@[simp] def gAbs : List Val → Option R
  | [.int i] => some (.val (.int (if i < 0 then -i else i)))
  | _ => none
theorem cs_abs : CallR X (.builtin "abs") (rC X.K Z gAbs) := by
  intro pins s σ H xs us Q I rs ⟨S, vs, r, w, pr, eg, q⟩
  unfold gAbs at eg
  split at eg
  · cases eg
    obtain ⟨x, rfl, p1⟩ := prep1 pr
    have e := (show x = V.int _ by simpa only [PRep, Rep] using p1)
    exact call_abs pins s σ H _ us Q I rs ⟨_, by rw [e], q_val w q (by simp only [Rep])⟩
  · cases eg
@[simp] def gInt : List Val → Option R
  | [.int i] => some (.val (.int i))
  | [.bl k] => some (.val (.int (if k then 1 else 0)))
  | _ => none
theorem cs_int : CallR X (.type "int") (rC X.K Z gInt) := by
  intro pins s σ H xs us Q I rs ⟨S, vs, r, w, pr, eg, q⟩
  unfold gInt at eg
  split at eg
  · cases eg
    obtain ⟨x, rfl, p1⟩ := prep1 pr
    have e := (show x = V.int _ by simpa only [PRep, Rep] using p1)
    exact call_int1 pins s σ H _ us Q I rs (.inl ⟨_, by rw [e], q_val w q (by simp only [Rep])⟩)
  · cases eg
    obtain ⟨x, rfl, p1⟩ := prep1 pr
    have e := (show x = V.bl _ by simpa only [PRep, Rep] using p1)
    exact call_int1 pins s σ H _ us Q I rs (.inr ⟨_, by rw [e], q_val w q (by simp only [Rep])⟩)
  · cases eg
@[simp] def gList : List Val → Option R
  | [v] => (itemsOf v).map R.own
  | _ => none
theorem cs_list : CallR X (.type "list") (rC X.K Z gList) := by
  intro pins s σ H xs us Q I rs ⟨S, vs, r, w, pr, eg, q⟩
  unfold gList at eg
  split at eg
  · rename_i v
    cases e : itemsOf v with
    | none => rw [e] at eg; cases eg
    | some ws =>
      rw [e] at eg
      cases eg
      obtain ⟨x, rfl, p1⟩ := prep1 pr
      obtain ⟨a, ys, rfl, hs, r1⟩ := items_rep w p1 e
      exact call_list_of pins s σ H _ us Q I rs ⟨a, ys, rfl, hs, q_own w q r1⟩
  · cases eg
/-- the greatest, the least of some ints -/
def maxI : List Int → Int
  | [] => 0
  | [x] => x
  | x :: xs => if maxI xs > x then maxI xs else x
def minI : List Int → Int
  | [] => 0
  | [x] => x
  | x :: xs => if minI xs < x then minI xs else x
theorem maxI_spec : ∀ {ns : List Int}, ns ≠ [] → maxI ns ∈ ns ∧ ∀ y ∈ ns, y ≤ maxI ns
  | [], h => absurd rfl h
  | [x], _ => ⟨by simp [maxI], by simp [maxI]⟩
  | x :: y :: r, _ => by
    obtain ⟨h1, h2⟩ := maxI_spec (ns := y :: r) (by simp)
    have e : maxI (x :: y :: r) = if maxI (y :: r) > x then maxI (y :: r) else x := rfl
    rw [e]
    split
    · rename_i h
      refine ⟨List.mem_cons_of_mem _ h1, fun z hz => ?_⟩
      rcases List.mem_cons.mp hz with rfl | hz
      · omega
      · exact h2 z hz
    · rename_i h
      refine ⟨List.mem_cons_self, fun z hz => ?_⟩
      rcases List.mem_cons.mp hz with rfl | hz
      · omega
      · have := h2 z hz
        omega
theorem minI_spec : ∀ {ns : List Int}, ns ≠ [] → minI ns ∈ ns ∧ ∀ y ∈ ns, minI ns ≤ y
  | [], h => absurd rfl h
  | [x], _ => ⟨by simp [minI], by simp [minI]⟩
  | x :: y :: r, _ => by
    obtain ⟨h1, h2⟩ := minI_spec (ns := y :: r) (by simp)
    have e : minI (x :: y :: r) = if minI (y :: r) < x then minI (y :: r) else x := rfl
    rw [e]
    split
    · rename_i h
      refine ⟨List.mem_cons_of_mem _ h1, fun z hz => ?_⟩
      rcases List.mem_cons.mp hz with rfl | hz
      · omega
      · exact h2 z hz
    · rename_i h
      refine ⟨List.mem_cons_self, fun z hz => ?_⟩
      rcases List.mem_cons.mp hz with rfl | hz
      · omega
      · have := h2 z hz
        omega
def gMax : List Val → Option R
  | [.int i, .int j] => some (.val (.int (if j > i then j else i)))
  | [v] => match lstOf v with
    | some vs => match intsOf vs with
      | some (n :: ns) => some (.val (.int (maxI (n :: ns))))
      | _ => none
    | none => none
  | _ => none
def gMin : List Val → Option R
  | [.int i, .int j] => some (.val (.int (if j < i then j else i)))
  | [v] => match lstOf v with
    | some vs => match intsOf vs with
      | some (n :: ns) => some (.val (.int (minI (n :: ns))))
      | _ => none
    | none => none
  | _ => none
theorem cs_max (hc : X.calm = true) : CallR X (.builtin "max") (rC X.K Z gMax) := by
  intro pins s σ H xs us Q I rs ⟨S, vs, r, w, pr, eg, q⟩
  unfold gMax at eg
  split at eg
  · rename_i i j
    cases eg
    obtain ⟨x, y, rfl, p1, p2⟩ := prep2 pr
    have e1 := (show x = V.int i by simpa only [PRep, Rep] using p1)
    have e2 := (show y = V.int j by simpa only [PRep, Rep] using p2)
    exact call_max2 hc pins s σ H _ us Q I rs ⟨i, j, by rw [e1, e2], q_val w q (by simp only [Rep])⟩
  · rename_i v
    split at eg
    · rename_i ws e
      split at eg
      · rename_i n ns e2
        cases eg
        obtain ⟨x, rfl, p1⟩ := prep1 pr
        obtain ⟨a, ys, rfl, hs, r1⟩ := lst_rep w p1 e
        have ey := repL_intsOf r1 e2
        subst ey
        refine cr_max hc pins s σ H _ us Q I rs ⟨a, n :: ns, rfl, hs, by simp, fun m h1 h2 => ?_⟩
        obtain ⟨k1, k2⟩ := maxI_spec (ns := n :: ns) (by simp)
        have em : m = maxI (n :: ns) := Int.le_antisymm (k2 m h1) (h2 _ k1)
        rw [em]
        exact q_val w q (by simp only [Rep])
      · cases eg
    · cases eg
  · cases eg
theorem cs_min (hc : X.calm = true) : CallR X (.builtin "min") (rC X.K Z gMin) := by
  intro pins s σ H xs us Q I rs ⟨S, vs, r, w, pr, eg, q⟩
  unfold gMin at eg
  split at eg
  · rename_i i j
    cases eg
    obtain ⟨x, y, rfl, p1, p2⟩ := prep2 pr
    have e1 := (show x = V.int i by simpa only [PRep, Rep] using p1)
    have e2 := (show y = V.int j by simpa only [PRep, Rep] using p2)
    exact call_min2 hc pins s σ H _ us Q I rs ⟨i, j, by rw [e1, e2], q_val w q (by simp only [Rep])⟩
  · rename_i v
    split at eg
    · rename_i ws e
      split at eg
      · rename_i n ns e2
        cases eg
        obtain ⟨x, rfl, p1⟩ := prep1 pr
        obtain ⟨a, ys, rfl, hs, r1⟩ := lst_rep w p1 e
        have ey := repL_intsOf r1 e2
        subst ey
        refine cr_min hc pins s σ H _ us Q I rs ⟨a, n :: ns, rfl, hs, by simp, fun m h1 h2 => ?_⟩
        obtain ⟨k1, k2⟩ := minI_spec (ns := n :: ns) (by simp)
        have em : m = minI (n :: ns) := Int.le_antisymm (h2 _ k1) (k2 m h1)
        rw [em]
        exact q_val w q (by simp only [Rep])
      · cases eg
    · cases eg
  · cases eg
def gSum : List Val → Option R
  | [v] => match lstOf v with
    | some vs => match intsOf vs with
      | some ns => some (.val (.int ns.sum))
      | _ => none
    | none => none
  | _ => none
theorem cs_sum (hc : X.calm = true) : CallR X (.builtin "sum") (rC X.K Z gSum) := by
  intro pins s σ H xs us Q I rs ⟨S, vs, r, w, pr, eg, q⟩
  unfold gSum at eg
  split at eg
  · rename_i v
    split at eg
    · rename_i ws e
      split at eg
      · rename_i ns e2
        cases eg
        obtain ⟨x, rfl, p1⟩ := prep1 pr
        obtain ⟨a, ys, rfl, hs, r1⟩ := lst_rep w p1 e
        have ey := repL_intsOf r1 e2
        subst ey
        exact cr_sum hc pins s σ H _ us Q I rs ⟨a, ns, rfl, hs, q_val w q (by simp only [Rep])⟩
      · cases eg
    · cases eg
  · cases eg

/-! ### isinstance(x, T), T a built-in class -/
/-- the name of a value's built-in class -/
def tyN : Val → Option String
  | .non => some "NoneType" | .bl _ => some "bool" | .int _ => some "int" | .str _ => some "str" | .tup _ => some "tuple" | .lst _ => some "list" | .slst _ => some "list" | .dic _ _ => some "dict" | _ => none
theorem tyx_of {K : PySem.W.Frag} {S : Gh} {H : Hp} {v : Val} {x : V} {t : String} (w : Wf S H) (h : PRep K Z S H v x) (e : tyN v = some t) : TyX K H x (.type t) := by
  cases v with
  | non =>
    cases e
    rw [show x = V.non by simpa only [PRep, Rep] using h]
    exact .base .non
  | bl b =>
    cases e
    rw [show x = V.bl b by simpa only [PRep, Rep] using h]
    exact .base (.bl b)
  | int b =>
    cases e
    rw [show x = V.int b by simpa only [PRep, Rep] using h]
    exact .base (.int b)
  | str b =>
    cases e
    rw [show x = V.str b by simpa only [PRep, Rep] using h]
    exact .base (.str b)
  | tup b =>
    cases e
    simp only [PRep, Rep] at h
    obtain ⟨a, xs, rfl, hs, _⟩ := h
    rcases sqT_mono w.same hs with (hs | ⟨o, hs⟩) | ⟨o, its, n, h1, h2, _⟩
    · exact .base (.tup hs)
    · exact .fTuple hs
    · exact .kTuple h1 h2
  | lst b =>
    cases e
    obtain ⟨a, xs, rfl, hs, _⟩ := h
    exact .base (.lst hs)
  | slst b =>
    cases e
    simp only [PRep, Rep] at h
    obtain ⟨a, xs, rfl, hs, _⟩ := h
    rcases sqL_at (w.same a) hs with (hs | ⟨o, hs⟩) | ⟨o, its, n, h1, h2, _⟩
    · exact .base (.lst hs)
    · exact .base (.frz hs)
    · exact .kList h1 h2
  | dic ks b =>
    cases e
    obtain ⟨a, xs, rfl, hs, _⟩ := h
    rcases hs with hs | ⟨o, hs⟩
    · exact .base (.dK hs)
    · exact .fDict hs
  | _ => cases e
def isB (T : String) (v : Val) : Option Bool := (tyN v).bind fun t => kitB t T
def rIsB (K : PySem.W.Frag) (Z : Stc) (T : String) : List V → Hp → VK → Prop := fun xs H Q => ∃ S v x b, Wf S H ∧ xs = [x, .ty T] ∧ PRep K Z S H v x ∧ isB T v = some b ∧ Q (.bl b) H
theorem cs_isB (T : String) : CallR X (.builtin "isinstance") (rIsB X.K Z T) := by
  intro pins s σ H xs us Q I rs ⟨S, v, x, b, w, exs, p, e, q⟩
  subst exs
  unfold isB at e
  cases et : tyN v with
  | none => rw [et] at e; cases e
  | some t =>
    rw [et] at e
    exact call_isi pins s σ H _ us Q I rs ⟨x, .ty T, .type t, .type T, b, rfl, .ty T, tyx_of w p et, kit_ty e, q⟩
@[simp] def dIsB (T : String) (d : DP) : DE := fun env st => (d env st).bind fun v st => match isB T v with | some b => .ok (.val (.bl b)) st | none => .bad
theorem me_isB {T : String} {xT : Str} {e : Expr} {d : DP} {p pT pos : Pos} (h : MP Z X W e d) (hm : X.mg "isinstance" = none) (hmT : X.mg xT = none) (hvT : bootBuiltins xT = some (.type T) := by decide +kernel) (hg : Gl X "isinstance" := by rfl) (hgT : Gl X xT := by rfl) (hv : bootBuiltins "isinstance" = some (.builtin "isinstance") := by decide +kernel)
    (hnT : xT ≠ "__name__" := by decide) (hdT : (xT == ("__debug__" : Str)) = false := by decide)
    (hs1 : starEach (e :: [.Name xT pT]) X.env = (false, eval e X.env) :: starEach [.Name xT pT] X.env := by rfl) (hs2 : starEach [.Name xT pT] X.env = (false, eval (.Name xT pT) X.env) :: starEach [] X.env := by rfl)
    (hpl : (backTo pos (starEach [.Name xT pT] X.env)).any (·.1) = false := by rfl) : ME Z X W (.Call (.Name "isinstance" p) [e, .Name xT pT] [] pos) (dIsB T d) := by
  obtain ⟨t, h1, h2⟩ := h
  refine ⟨_, pe_callB (cs_isB (Z := Z) T) hg hm hv (pa_cons h1 (pa_cons (pe_bltn (v := .ty T) hgT hmT hvT rfl hnT hdT) pa_nil hs2) hs1) (by decide) (by decide) hs1 hpl, ?_⟩
  refine snd_bind (RPb := rpE X.K Z) (tb := fun x σ H Q => rIsB X.K Z T [x, .ty T] H Q) (db := fun v env st => match isB T v with | some b => .ok (.val (.bl b)) st | none => .bad) h2 ?_
  intro S σ H env st Q v x S1 H1 st1 r e1 r1 p1 po
  cases ei : isB T v with
  | none => simp only [ei, Post] at po
  | some b =>
    simp only [ei, Post] at po
    exact ⟨S1, v, x, b, r1.wf, rfl, p1.p, ei, po _ S1 H1 (Ext.refl _ _) r1.wf r1.str (by simp only [rpE, RR, Rep])⟩

/-! ### calls of defs -/
/-- what a def promises, by its denotation -/
def spD (K : PySem.W.Frag) (Z : Stc) (D : FD) (n : Nat) : Sp := fun vs H Q E => ∃ S st args, Wf S H ∧ StR K Z S H st ∧ ArsR K Z S H args vs ∧ vs.length = n ∧ Post K Z S H (fun S' H' r x => RR K Z S' H H' r x) Q (fun c d H' => E c d H') (D args st)
/-- the def x of the module is D -/
structure Fd (P : Program) (w : World) (K : PySem.W.Frag) (mg : Str → Option Value) (base : Heap) (Z : Stc) (k : Nat) (x : Str) (n : Nat) (D : FD) : Prop where
  ex : ∃ f fd ps, ps.length = n ∧ FnOk P w K mg base (L2.CX P w) k f fd ps (spD K Z D n) ∧ mg x = some (.ref f) ∧ PySem.W.keepIn K (.ref f) = true ∧ Binds K fd ps []
@[simp] def dCall (D : FD) (n : Nat) (ds : List D1) : DE := fun env st => (dArgs ds env st).bind fun args st => if args.length = n then D args st else .bad
theorem ArsR.length {K : PySem.W.Frag} {S : Gh} {H : Hp} : ∀ {as : List Arg} {xs : List V}, ArsR K Z S H as xs → as.length = xs.length
  | [], xs, h => by
    have e : xs = [] := by simpa only [ArsR] using h
    rw [e]; rfl
  | a :: as, xs, h => by
    simp only [ArsR] at h
    obtain ⟨x, r, rfl, _, t⟩ := h
    rw [List.length_cons, List.length_cons, ArsR.length t]
theorem snd_call {K : PySem.W.Frag} {ta : TA} {D : FD} {n : Nat} {ds : List D1} (h : Snd K Z W (rpA K Z) ta (dArgs ds)) : Snd K Z W (rpE K Z) (tCallS (spD K Z D n) (WE W) ta) (dCall D n ds) := by
  refine snd_bind (RPb := rpE K Z) (tb := fun vs σ H Q => spD K Z D n vs H Q (fun c d H' => W c d σ H')) (db := fun args env st => if args.length = n then D args st else .bad) h ?_
  intro S σ H env st Q args xs S1 H1 st1 r e1 r1 p1 po
  by_cases hn : args.length = n
  · rw [if_pos hn] at po
    exact ⟨S1, st1, args, r1.wf, r1.str, p1, by rw [← ArsR.length p1]; exact hn, po.imp fun a y S' H' e w q => RR.back q e1.live⟩
  · rw [if_neg hn] at po
    exact po.elim
theorem me_call {k : Nat} {x : Str} {n : Nat} {D : FD} {e : Expr} {es : List Expr} {ds : List D1} {p pos : Pos} (F : Fd X.prog X.w X.K X.mg X.base Z k x n D) (hr : Room k X.A) (tk : Takes X W) (ha : MA Z X W (e :: es) (dArgs ds)) (hg : Gl X x := by rfl)
    (hdb : (x == ("__debug__" : Str)) = false := by decide) (he : starEach (e :: es) X.env = (false, eval e X.env) :: starEach es X.env := by rfl) (hpl : (backTo pos (starEach es X.env)).any (·.1) = false := by rfl) :
    ME Z X W (.Call (.Name x p) (e :: es) [] pos) (dCall D n ds) := by
  obtain ⟨f, fd, ps, hn, F, hm, hk, hb⟩ := F.ex
  obtain ⟨t, h1, h2⟩ := ha
  exact ⟨_, pe_callS F hr hg hm hk hb (fun σ => passAt tk σ) h1 hdb he hpl, snd_call h2⟩
def Out.calm {α : Type} : Out α → Out α
  | .ok a st => .ok a st | _ => .bad
theorem snd_call0 {K : PySem.W.Frag} {ta : TA} {D : FD} {n : Nat} {ds : List D1} (h : Snd K Z W (rpA K Z) ta (dArgs ds)) : Snd K Z W (rpE K Z) (tCall (spD K Z D n) [] E0 ta) (fun env st => (dArgs ds env st).bind fun args st => if args.length = n then (D args st).calm else .bad) := by
  refine snd_bind (RPb := rpE K Z) (tb := fun vs σ H Q => spD K Z D n (vs ++ []) H Q E0) (db := fun args env st => if args.length = n then (D args st).calm else .bad) h ?_
  intro S σ H env st Q args xs S1 H1 st1 r e1 r1 p1 po
  rw [List.append_nil]
  by_cases hn : args.length = n
  · rw [if_pos hn] at po
    refine ⟨S1, st1, args, r1.wf, r1.str, p1, by rw [← ArsR.length p1]; exact hn, ?_⟩
    cases e : D args st1 with
    | bad => simp only [e, Out.calm, Post] at po
    | exc c fs st2 => simp only [e, Out.calm, Post] at po
    | ok a st2 =>
      simp only [e, Out.calm, Post] at po ⊢
      exact fun y S' H' e w s q => po y S' H' e w s (RR.back q e1.live)
  · rw [if_neg hn] at po
    exact po.elim
def dCall0 (D : FD) (n : Nat) (ds : List D1) : DE := fun env st => (dArgs ds env st).bind fun args st => if args.length = n then (D args st).calm else .bad
theorem passX {X : Cx} : Passes (L2.CX X.prog X.w) X E0 := fun _ _ _ _ _ _ _ ⟨_, _, _, _, _, _, _, _, _, _, _, _, q⟩ => q.elim
theorem me_call0 {k : Nat} {x : Str} {n : Nat} {D : FD} {e : Expr} {es : List Expr} {ds : List D1} {p pos : Pos} (F : Fd X.prog X.w X.K X.mg X.base Z k x n D) (hr : Room k X.A) (ha : MA Z X W (e :: es) (dArgs ds)) (hg : Gl X x := by rfl)
    (hdb : (x == ("__debug__" : Str)) = false := by decide) (he : starEach (e :: es) X.env = (false, eval e X.env) :: starEach es X.env := by rfl) (hpl : (backTo pos (starEach es X.env)).any (·.1) = false := by rfl) :
    ME Z X W (.Call (.Name x p) (e :: es) [] pos) (dCall0 D n ds) := by
  obtain ⟨f, fd, ps, hn, F, hm, hk, hb⟩ := F.ex
  obtain ⟨t, h1, h2⟩ := ha
  exact ⟨_, pe_call F hr hg hm hk hb .nil passX h1 hdb he hpl, snd_call0 h2⟩
end
end Eg

namespace Eg
open PySem L2
section
variable (K : PySem.W.Frag) (Z : Stc)
def PostS (S : Gh) (H : Hp) (env : Evn) (σ : St) (D : Ends) (W : WX) : OutS → Prop
  | .nx env' st' => ∀ S' σ' H', ExtS S H env σ S' H' env' σ' → SR K Z S' σ' H' env' st' → D.nx σ' H'
  | .bk env' st' => ∀ S' σ' H', ExtS S H env σ S' H' env' σ' → SR K Z S' σ' H' env' st' → D.bk σ' H'
  | .ct env' st' => ∀ S' σ' H', ExtS S H env σ S' H' env' σ' → SR K Z S' σ' H' env' st' → D.ct σ' H'
  | .rt r st' => ∀ x S' H', ExtR S H env σ S' H' → Wf S' H' → StR K Z S' H' st' → RRs K Z env σ H S' H' r x → D.rt x H'
  | .exc c fs env' st' => ∀ cls d S' σ' H', ExtS S H env σ S' H' env' σ' → SR K Z S' σ' H' env' st' → XR K Z S' H' c fs cls d → W cls d σ' H'
  | .bad => False
def SndS (W : WX) (t : TS) (d : DS) : Prop := ∀ S σ H env st D, SR K Z S σ H env st → PostS K Z S H env σ D W (d env st) → t D σ H
end
def MS (Z : Stc) (X : Cx) (W : WX) (s : Stmt) (d : DS) : Prop := ∃ t, PS X s t ∧ SndS X.K Z W t d
def MSs (Z : Stc) (X : Cx) (W : WX) (s : List Stmt) (d : DS) : Prop := ∃ t, PSs X s t ∧ SndS X.K Z W t d
section
variable {K : PySem.W.Frag} {Z : Stc} {S S' S1 : Gh} {H H' H1 : Hp} {W : WX}
theorem PostS.later {env env1 σ σ1 D o} (e : ExtS S H env σ S1 H1 env1 σ1) (p : PostS K Z S H env σ D W o) : PostS K Z S1 H1 env1 σ1 D W o := by
  cases o with
  | nx env' st' => exact fun S' σ' H' e2 r => p S' σ' H' (e.trans e2) r
  | bk env' st' => exact fun S' σ' H' e2 r => p S' σ' H' (e.trans e2) r
  | ct env' st' => exact fun S' σ' H' e2 r => p S' σ' H' (e.trans e2) r
  | exc c fs env' st' => exact fun cls d S' σ' H' e2 r x => p cls d S' σ' H' (e.trans e2) r x
  | bad => exact p
  | rt r st' =>
    refine fun x S' H' e2 w s q => p x S' H' (e.transR e2) w s ?_
    have k : ∀ l, (H1 l = none ∨ OwnA env1 σ1 l) → (H l = none ∨ OwnA env σ l) := fun l h => by
      rcases h with h | h
      · exact .inl (none_of_live e.live h)
      · exact (e.own l h).symm
    cases r with
    | val v => exact q
    | own vs =>
      obtain ⟨l, xs, e1, e2', e3, e4, e5⟩ := q
      exact ⟨l, xs, e1, e2', e3, k l e4, e5⟩
    | ownd ks vs =>
      obtain ⟨l, xs, e1, e2', e3, e4, e5⟩ := q
      exact ⟨l, xs, e1, e2', e3, k l e4, e5⟩
/-- an expression ahead of a statement's end -/
theorem PostS.of_exp {env σ D st} {d : DE} {f : R → Store → OutS} (r : SR K Z S σ H env st)
    (p : PostS K Z S H env σ D W (match d env st with | .ok v st' => f v st' | .exc c fs st' => .exc c fs env st' | .bad => .bad))
    {Q : V → Hp → Prop} (h : ∀ v st' x S' H', Ext S H S' H' → SR K Z S' σ H' env st' → RR K Z S' H H' v x → PostS K Z S H env σ D W (f v st') → Q x H') :
    Post K Z S H (rpE K Z H) Q (fun c dd H' => W c dd σ H') (d env st) := by
  cases e : d env st with
  | bad => simp only [e, PostS] at p
  | exc c fs st1 =>
    simp only [e, PostS] at p
    exact fun cls dd S' H' e1 w1 s1 x1 => p cls dd S' σ H' (e1.toS env σ) (r.ext e1 w1 s1) x1
  | ok v st1 =>
    simp only [e] at p
    exact fun y S' H' e1 w1 s1 q => h v st1 y S' H' e1 (r.ext e1 w1 s1) q p
/-- .. any kind -/
theorem PostS.of_any {α β : Type} {RP : Gh → Hp → α → β → Prop} {env σ D st} {o : Out α} {f : α → Store → OutS} (r : SR K Z S σ H env st)
    (p : PostS K Z S H env σ D W (match o with | .ok v st' => f v st' | .exc c fs st' => .exc c fs env st' | .bad => .bad))
    {Q : β → Hp → Prop} (h : ∀ v st' x S' H', Ext S H S' H' → SR K Z S' σ H' env st' → RP S' H' v x → PostS K Z S H env σ D W (f v st') → Q x H') :
    Post K Z S H RP Q (fun c dd H' => W c dd σ H') o := by
  cases e : o with
  | bad => simp only [e, PostS] at p
  | exc c fs st1 =>
    simp only [e, PostS] at p
    exact fun cls dd S' H' e1 w1 s1 x1 => p cls dd S' σ H' (e1.toS env σ) (r.ext e1 w1 s1) x1
  | ok v st1 =>
    simp only [e] at p
    exact fun y S' H' e1 w1 s1 q => h v st1 y S' H' e1 (r.ext e1 w1 s1) q p

/-! ### slots stored -/
def AddrA (env : Evn) (σ : St) (a : Addr) : Prop := ∃ (i : Nat) (s : Slot), env[i]? = some (some s) ∧ s.isAddr = true ∧ σ[i]? = some (some (.ref a))
theorem own_addr {s : Slot} (h : s.isOwn = true) : s.isAddr = true := by cases s <;> first | rfl | cases h
theorem addr_live {σ env st} (r : SR K Z S σ H env st) {a} (h : AddrA env σ a) : H a ≠ none := by
  obtain ⟨i, s, e, o, q⟩ := h
  obtain ⟨x, h1, h2⟩ := r.sl i s e
  rw [q] at h1
  cases h1
  cases s with
  | val v => cases o
  | exn c => cases o
  | fnv g => cases o
  | brw vs =>
    obtain ⟨l, xs, e1, e2, _⟩ := h2
    cases e1
    rw [e2.h]; simp
  | brwd ks vs =>
    obtain ⟨l, xs, e1, e2, _⟩ := h2
    cases e1
    rcases e2.h with q | ⟨o, q⟩ <;> (rw [q]; simp)
  | lkd ks vs =>
    obtain ⟨l, xs, e1, e2, _⟩ := h2
    cases e1
    obtain ⟨o, q⟩ := e2.h
    rw [q]; simp
  | own vs =>
    obtain ⟨l, xs, e1, e2, _⟩ := h2
    cases e1
    rw [e2]; simp
  | ownd ks vs =>
    obtain ⟨l, xs, e1, e2, _⟩ := h2
    cases e1
    rw [e2]; simp
theorem set_some {α : Type} {l : List (Option α)} {i j : Nat} {s t : α} (h : (l.set i (some s))[j]? = some (some t)) : (j = i ∧ t = s) ∨ (j ≠ i ∧ l[j]? = some (some t)) := by
  by_cases e : j = i
  · subst e
    by_cases hl : j < l.length
    · rw [List.getElem?_set_self hl] at h
      cases h
      exact .inl ⟨rfl, rfl⟩
    · rw [List.getElem?_eq_none (by simpa using hl)] at h
      cases h
  · rw [List.getElem?_set_ne (Ne.symm e)] at h
    exact .inr ⟨e, h⟩
theorem SR.set {σ env st} (r : SR K Z S σ H env st) {i : Nat} {s : Slot} {x : V} (hi : i < env.length) (hs : SlR K Z S H s x) (hn : s.isAddr = true → ∀ l, x = .ref l → ¬ AddrA env σ l) :
    SR K Z S (σ.set i (some x)) H (env.set i (some s)) st := by
  have hσ : i < σ.length := by rw [← r.len]; exact hi
  refine ⟨r.wf, r.str, by rw [List.length_set, List.length_set]; exact r.len, fun j t h => ?_, fun j k sj sk l njk h1 o1 h2 a2 q1 q2 => ?_⟩
  · rcases set_some h with ⟨rfl, rfl⟩ | ⟨nj, h⟩
    · exact ⟨x, List.getElem?_set_self hσ, hs⟩
    · obtain ⟨y, k1, k2⟩ := r.sl j t h
      exact ⟨y, (List.getElem?_set_ne (Ne.symm nj)).trans k1, k2⟩
  · rcases set_some h1 with ⟨rfl, rfl⟩ | ⟨nj, h1⟩
    · have hk : k ≠ j := fun z => njk z.symm
      rw [List.getElem?_set_ne (Ne.symm hk)] at h2 q2
      rw [List.getElem?_set_self hσ] at q1
      exact hn (own_addr o1) l (Option.some.inj (Option.some.inj q1)) ⟨k, sk, h2, a2, q2⟩
    · rw [List.getElem?_set_ne (Ne.symm nj)] at q1
      rcases set_some h2 with ⟨ek, es⟩ | ⟨nk, h2⟩
      · rw [ek, List.getElem?_set_self hσ] at q2
        rw [es] at a2
        exact hn a2 l (Option.some.inj (Option.some.inj q2)) ⟨j, sj, h1, own_addr o1, q1⟩
      · rw [List.getElem?_set_ne (Ne.symm nk)] at q2
        exact r.sep j k sj sk l njk h1 o1 h2 a2 q1 q2
theorem ExtS.set {env env1 σ σ1} (e : ExtS S H env σ S1 H1 env1 σ1) {i : Nat} {s : Slot} {x : V} (hb : s.isAddr = true → s.isOwn = true) (hn : s.isAddr = true → ∀ l, x = .ref l → H l = none ∨ OwnA env σ l) :
    ExtS S H env σ S1 H1 (env1.set i (some s)) (σ1.set i (some x)) := by
  refine ⟨e.pre, e.sg, e.fresh, e.frame, e.live, e.rfresh, fun a h => ?_, by rw [List.length_set]; exact e.len, fun j t h h1 h2 => ?_⟩
  · obtain ⟨j, t, h1, h2, h3⟩ := h
    rcases set_some h1 with ⟨rfl, rfl⟩ | ⟨nj, h1⟩
    · by_cases hl : j < σ1.length
      · rw [List.getElem?_set_self hl] at h3
        exact (hn (own_addr h2) a (Option.some.inj (Option.some.inj h3))).symm
      · rw [List.getElem?_eq_none (by simpa using hl)] at h3
        cases h3
    · rw [List.getElem?_set_ne (Ne.symm nj)] at h3
      exact e.own a ⟨j, t, h1, h2, h3⟩
  · rcases set_some h with ⟨rfl, rfl⟩ | ⟨nj, h⟩
    · rw [hb h1] at h2; cases h2
    · rw [List.getElem?_set_ne (Ne.symm nj)]
      exact e.brw j t h h1 h2
@[simp] def R.slot : R → Slot
  | .val v => .val v | .own vs => .own vs | .ownd ks vs => .ownd ks vs
theorem slot_own {r : R} (h : r.slot.isAddr = true) : r.slot.isOwn = true := by cases r <;> first | rfl | cases h
theorem RR.sl {H0 r x} (h : RR K Z S H0 H r x) : SlR K Z S H r.slot x := by
  cases r with
  | val v => exact h
  | own vs =>
    obtain ⟨l, xs, e1, e2, e3, _, e5⟩ := h
    exact ⟨l, xs, e1, e2, e3, e5⟩
  | ownd ks vs =>
    obtain ⟨l, xs, e1, e2, e3, _, e5⟩ := h
    exact ⟨l, xs, e1, e2, e3, e5⟩
theorem RR.new {H0 r x} (h : RR K Z S H0 H r x) (a : r.slot.isAddr = true) : ∀ l, x = .ref l → H0 l = none := fun l e => by
  cases r with
  | val v => cases a
  | own vs =>
    obtain ⟨l', xs, rfl, _, _, e4, _⟩ := h
    cases e
    exact e4
  | ownd ks vs =>
    obtain ⟨l', xs, rfl, _, _, e4, _⟩ := h
    cases e
    exact e4
inductive Tgt where
  | nm (i : Nat) | tp (is : List Nat) | tl (is : List Nat)
@[simp] def setMany : List Nat → List Val → Evn → Option Evn
  | [], [], env => some env
  | i :: is, v :: vs, env => if i < env.length then setMany is vs (env.set i (some (.val v))) else none
  | _, _, _ => none
@[simp] def setT : Tgt → R → Evn → Option Evn
  | .nm i, r, env => if i < env.length then some (env.set i (some r.slot)) else none
  | .tp is, .val (.tup vs), env => setMany is vs env
  | .tl is, .own vs, env => setMany is vs env
  | .tl is, .val (.lst vs), env => setMany is vs env
  | _, _, _ => none
/-- what a target makes of a result -/
def SndG (K : PySem.W.Frag) (Z : Stc) (g : TG) (T : Tgt) : Prop := ∀ S0 H0 env0 σ0 S σ H env st r x Q env', ExtS S0 H0 env0 σ0 S H env σ → SR K Z S σ H env st → RR K Z S H0 H r x → (∀ l, AddrA env σ l → H0 l ≠ none ∨ r.slot.isAddr = false) → setT T r env = some env' →
  (∀ σ', ExtS S0 H0 env0 σ0 S H env' σ' → SR K Z S σ' H env' st → Q σ' H) → g x σ H Q
def gNames : List Nat → TGs
  | [] => gNil
  | i :: is => gCons (gName i) (gNames is)
/-- a target's reading -/
def gT (K : PySem.W.Frag) : Tgt → TG
  | .nm i => gName i
  | .tp is => gTup K is.length (gNames is)
  | .tl is => gLst K is.length (gNames is)
def MG (X : Cx) (e : Expr) (T : Tgt) : Prop := PG X e (gT X.K T)
theorem snd_name {i : Nat} : SndG K Z (gName i) (.nm i) := by
  intro S0 H0 env0 σ0 S σ H env st r v Q env' e sr rr hl hs k
  simp only [setT] at hs
  split at hs
  · rename_i hi
    cases hs
    refine k _ (e.set slot_own fun a l el => .inl (rr.new a l el)) (sr.set hi rr.sl fun a l el z => ?_)
    rcases hl l z with q | q
    · exact q (rr.new a l el)
    · rw [q] at a; cases a
  · cases hs
def SndGs (K : PySem.W.Frag) (Z : Stc) (g : TGs) (is : List Nat) : Prop := ∀ S0 H0 env0 σ0 S σ H env st vs xs Q env', ExtS S0 H0 env0 σ0 S H env σ → SR K Z S σ H env st → RepL K Z S vs xs → setMany is vs env = some env' →
  (∀ σ', ExtS S0 H0 env0 σ0 S H env' σ' → SR K Z S σ' H env' st → Q σ' H) → g xs σ H Q
theorem snd_names : ∀ is : List Nat, SndGs K Z (gNames is) is
  | [] => by
    intro S0 H0 env0 σ0 S σ H env st vs xs Q env' e sr rr hs k
    cases vs with
    | nil =>
      cases hs
      exact ⟨by simpa only [RepL] using rr, k _ e sr⟩
    | cons v vs => cases hs
  | i :: is => by
    intro S0 H0 env0 σ0 S σ H env st vs xs Q env' e sr rr hs k
    cases vs with
    | nil => cases hs
    | cons v vs =>
      simp only [setMany] at hs
      split at hs
      · rename_i hi
        obtain ⟨y, r, rfl, r1, r2⟩ := repL_uncons rr
        refine ⟨y, r, rfl, ?_⟩
        exact snd_names is S0 H0 env0 σ0 S _ H _ st vs r Q env' (e.set (s := .val v) (fun a => by cases a) fun a => by cases a) (sr.set (s := .val v) hi r1 fun a => by cases a) r2 hs k
      · cases hs
theorem setMany_len : ∀ {is : List Nat} {vs : List Val} {env env'}, setMany is vs env = some env' → vs.length = is.length
  | [], [], _, _, _ => rfl
  | [], _ :: _, _, _, h => by cases h
  | _ :: _, [], _, _, h => by cases h
  | i :: is, v :: vs, env, env', h => by
    simp only [setMany] at h
    split at h
    · rw [List.length_cons, List.length_cons, setMany_len h]
    · cases h
theorem sndG : ∀ T : Tgt, SndG K Z (gT K T) T
  | .nm i => snd_name
  | .tp is => by
    intro S0 H0 env0 σ0 S σ H env st r v Q env' e sr rr hl hs kk
    cases r with
    | val w =>
      cases w with
      | tup vs =>
        simp only [RR, Rep] at rr
        obtain ⟨a, xs, rfl, ht, rl⟩ := rr
        exact ⟨a, xs, rfl, sqT_mono sr.wf.same ht, by rw [← repL_length rl]; exact setMany_len hs, snd_names is S0 H0 env0 σ0 S σ H env st vs xs Q env' e sr rl hs kk⟩
      | _ => cases hs
    | own vs => cases hs
    | ownd ks vs => cases hs
  | .tl is => by
    intro S0 H0 env0 σ0 S σ H env st r v Q env' e sr rr hl hs kk
    cases r with
    | val w =>
      cases w with
      | lst vs =>
        simp only [RR, Rep] at rr
        obtain ⟨a, xs, rfl, ht, rl⟩ := rr
        exact ⟨a, xs, rfl, .inl (.inl (sr.wf.same _ _ ht)), by rw [← repL_length rl]; exact setMany_len hs, snd_names is S0 H0 env0 σ0 S σ H env st vs xs Q env' e sr rl hs kk⟩
      | _ => cases hs
    | own vs =>
      obtain ⟨a, xs, rfl, ht, g, n, rl⟩ := rr
      exact ⟨a, xs, rfl, .inl (.inl ht), by rw [← repL_length rl]; exact setMany_len hs, snd_names is S0 H0 env0 σ0 S σ H env st vs xs Q env' e sr rl hs kk⟩
    | ownd ks vs => cases hs
end
section
variable {Z : Stc} {X : Cx} {W : WX}
/-! ### blocks and simple statements -/
@[simp] def dNext : DS := fun env st => .nx env st
def OutS.thn (o : OutS) (f : Evn → Store → OutS) : OutS := match o with
  | .nx env st => f env st | o => o
@[simp] def dSeq (a b : DS) : DS := fun env st => (a env st).thn b
theorem mss_nil : MSs Z X W [] dNext := ⟨_, pss_nil, fun S σ H env st D r p => p S σ H (ExtS.refl ..) r⟩
theorem mss_one {s : Stmt} {d : DS} (h : MS Z X W s d) : MSs Z X W [s] d := let ⟨t, h1, h2⟩ := h; ⟨t, pss_one h1, h2⟩
theorem mss_cons {s : Stmt} {ss : List Stmt} {d ds : DS} (h : MS Z X W s d) (h' : MSs Z X W ss ds) : MSs Z X W (s :: ss) (dSeq d ds) := by
  obtain ⟨t, h1, h2⟩ := h
  obtain ⟨u, h3, h4⟩ := h'
  refine ⟨_, pss_cons h1 h3, fun S σ H env st D r p => ?_⟩
  refine h2 S σ H env st _ r ?_
  simp only [dSeq] at p
  cases e : d env st with
  | nx env1 st1 =>
    simp only [e, OutS.thn] at p
    exact fun S1 σ1 H1 e1 r1 => h4 S1 σ1 H1 env1 st1 D r1 (p.later e1)
  | bk env1 st1 => simp only [e, OutS.thn] at p; exact p
  | ct env1 st1 => simp only [e, OutS.thn] at p; exact p
  | rt r st1 => simp only [e, OutS.thn] at p; exact p
  | exc c fs env1 st1 => simp only [e, OutS.thn] at p; exact p
  | bad => simp only [e, OutS.thn] at p; exact p
/-- a statement that stores nothing of its own: an expression's end -/
def dExpS {α : Type} (o : Out α) (env : Evn) (f : α → Store → OutS) : OutS := match o with | .ok v st' => f v st' | .exc c fs st' => .exc c fs env st' | .bad => .bad
@[simp] def dRet (d : DE) : DS := fun env st => dExpS (d env st) env fun r st => .rt r st
theorem RR.rrs {K : PySem.W.Frag} {S : Gh} {H0 H : Hp} {env σ r x} (h : RR K Z S H0 H r x) : RRs K Z env σ H0 S H r x := by
  cases r with
  | val v => exact h
  | own vs =>
    obtain ⟨l, xs, e1, e2, e3, e4, e5⟩ := h
    exact ⟨l, xs, e1, e2, e3, .inl e4, e5⟩
  | ownd ks vs =>
    obtain ⟨l, xs, e1, e2, e3, e4, e5⟩ := h
    exact ⟨l, xs, e1, e2, e3, .inl e4, e5⟩
theorem ms_ret {e : Expr} {d : DE} {pos : Pos} (h : ME Z X W e d) : MS Z X W (.Return (some e) pos) (dRet d) := by
  obtain ⟨t, h1, h2⟩ := h
  refine ⟨_, ps_ret h1, fun S σ H env st D r p => h2 S σ H env st _ r ?_⟩
  refine PostS.of_any (f := fun r st => .rt r st) r p fun v st' x S' H' e1 r1 q p' => ?_
  exact p' x S' H' (e1.toR env σ) r1.wf r1.str (RR.rrs q)
/-- return of a local name: an own list goes out as one's own -/
@[simp] def dRetV (i : Nat) : DS := fun env st => match env[i]? with
  | some (some (.val v)) => .rt (.val v) st | some (some (.own vs)) => .rt (.own vs) st | some (some (.ownd ks vs)) => .rt (.ownd ks vs) st | _ => .bad
theorem ms_retV {x : Str} {pos p : Pos} (i : Nat) (h : PE X (.Name x p) (tVar i)) : MS Z X W (.Return (some (.Name x p)) pos) (dRetV i) := by
  refine ⟨_, ps_ret h, fun S σ H env st D r p => ?_⟩
  unfold dRetV at p
  cases e : env[i]? with
  | none => simp only [e, PostS] at p
  | some o =>
    cases o with
    | none => simp only [e, PostS] at p
    | some s =>
      obtain ⟨x, h1, h2⟩ := r.sl i s e
      refine ⟨x, h1, ?_⟩
      cases s with
      | exn c => simp only [e, PostS] at p
      | fnv g => simp only [e, PostS] at p
      | val v =>
        simp only [e, PostS] at p
        exact p x S H ((Ext.refl S H).toR env σ) r.wf r.str h2
      | own vs =>
        simp only [e, PostS] at p
        obtain ⟨l, xs, rfl, e2, e3, e4⟩ := h2
        exact p _ S H ((Ext.refl S H).toR env σ) r.wf r.str ⟨l, xs, rfl, e2, e3, .inr ⟨i, _, e, rfl, h1⟩, e4⟩
      | ownd ks vs =>
        simp only [e, PostS] at p
        obtain ⟨l, xs, rfl, e2, e3, e4⟩ := h2
        exact p _ S H ((Ext.refl S H).toR env σ) r.wf r.str ⟨l, xs, rfl, e2, e3, .inr ⟨i, _, e, rfl, h1⟩, e4⟩
      | brw vs => simp only [e, PostS] at p
      | brwd ks vs => simp only [e, PostS] at p
      | lkd ks vs => simp only [e, PostS] at p
@[simp] def dRetN : DS := fun _ st => .rt (.val .non) st
theorem ms_retN {pos : Pos} : MS Z X W (.Return none pos) dRetN := ⟨_, ps_retN, fun S σ H env st D r p => p .non S H ((Ext.refl S H).toR env σ) r.wf r.str (by simp only [RRs, Rep])⟩
theorem ms_pass {pos : Pos} : MS Z X W (.Pass pos) dNext := ⟨_, ps_pass, fun S σ H env st D r p => p S σ H (ExtS.refl ..) r⟩
@[simp] def dBreak : DS := fun env st => .bk env st
@[simp] def dCont : DS := fun env st => .ct env st
theorem ms_break {pos : Pos} : MS Z X W (.Break pos) dBreak := ⟨_, ps_break, fun S σ H env st D r p => p S σ H (ExtS.refl ..) r⟩
theorem ms_cont {pos : Pos} : MS Z X W (.Continue pos) dCont := ⟨_, ps_continue, fun S σ H env st D r p => p S σ H (ExtS.refl ..) r⟩
theorem ms_doc {x j pos pos'} : MS Z X W (.Expr (.Constant (.str x) j pos) pos') dNext := ⟨_, ps_doc, fun S σ H env st D r p => p S σ H (ExtS.refl ..) r⟩
@[simp] def dDrop (d : DE) : DS := fun env st => dExpS (d env st) env fun _ st => .nx env st
theorem ms_expr {e : Expr} {d : DE} {pos : Pos} (h : ME Z X W e d) (hs : swapsWith e none pos.line X.env = pure false := by rfl) : MS Z X W (.Expr e pos) (dDrop d) := by
  obtain ⟨t, h1, h2⟩ := h
  refine ⟨_, ps_expr h1 hs, fun S σ H env st D r p => h2 S σ H env st _ r ?_⟩
  refine PostS.of_any (f := fun _ st => .nx env st) r p fun v st' x S' H' e1 r1 q p' => ?_
  exact p' S' σ H' (e1.toS env σ) r1
@[simp] def dAsg (d : DE) (T : Tgt) : DS := fun env st => dExpS (d env st) env fun r st => match setT T r env with | some env' => .nx env' st | none => .bad
theorem ms_asg {tg e : Expr} {d : DE} {T : Tgt} {pos : Pos} (h : ME Z X W e d) (hg : MG X tg T) (hs : swapsWithSole [tg] e pos.line X.env = pure false := by rfl) (hw : swappedStores [tg] e X.env = pure none := by rfl) (hae : (assignEach [tg] X.env).map (·.2) = [assign tg X.env] := by rfl) : MS Z X W (.Assign [tg] e pos) (dAsg d T) := by
  obtain ⟨t, h1, h2⟩ := h
  refine ⟨_, ps_asg h1 hg hs hw hae, fun S σ H env st D r p => h2 S σ H env st _ r ?_⟩
  refine PostS.of_any (f := fun r st => match setT T r env with | some env' => .nx env' st | none => .bad) r p fun v st' x S' H' e1 r1 q p' => ?_
  cases es : setT T v env with
  | none => simp only [es, PostS] at p'
  | some env' =>
    simp only [es] at p'
    exact sndG T S H env σ S' σ H' env st' v x D.nx env' (e1.toS env σ) r1 q (fun l z => .inl (addr_live r z)) es fun σ' e2 r2 => p' S' σ' H' e2 r2
theorem ms_set {i : Nat} {x : Str} {e : Expr} {d : DE} {pos pos' : Pos} (h : ME Z X W e d) (hN : X.N.Nodup) (hi : X.N[i]? = some x) (hx : Loc X.env.scope x) (hs : swapsWith e (some (.Name x pos')) pos.line X.env = pure false := by rfl)
    (hf : X.fn x = true ∨ X.env.scope.names.lookup x = some .local := by first | exact .inl rfl | exact .inr rfl | assumption) : MS Z X W (.Assign [.Name x pos'] e pos) (dAsg d (.nm i)) := by
  obtain ⟨t, h1, h2⟩ := h
  refine ⟨_, ps_set hN hi hx h1 hs hf, fun S σ H env st D r p => h2 S σ H env st _ r ?_⟩
  refine PostS.of_any (f := fun r st => match setT (.nm i) r env with | some env' => .nx env' st | none => .bad) r p fun v st' x S' H' e1 r1 q p' => ?_
  simp only [setT] at p'
  by_cases hi2 : i < env.length
  · rw [if_pos hi2] at p'
    refine p' S' (σ.set i (some x)) H' ((e1.toS env σ).set slot_own fun a l el => .inl (q.new a l el)) (r1.set hi2 q.sl fun a l el z => addr_live r z (q.new a l el))
  · rw [if_neg hi2] at p'
    exact p'.elim
@[simp] def dIf (c : DT) (a b : DS) : DS := fun env st => dExpS (c env st) env fun k st => if k = true then a env st else b env st
theorem ms_if {c : Expr} {a b : List Stmt} {dc : DT} {da db : DS} {pos : Pos} (hc : MT Z X W c dc) (ha : MSs Z X W a da) (hb : MSs Z X W b db) : MS Z X W (.If c a b pos) (dIf dc da db) := by
  obtain ⟨t, h1, h2⟩ := hc
  obtain ⟨ta, h3, h4⟩ := ha
  obtain ⟨tb, h5, h6⟩ := hb
  refine ⟨_, ps_if h1 h3 h5, fun S σ H env st D r p => h2 S σ H env st _ r ?_⟩
  refine PostS.of_any (f := fun k st => if k = true then da env st else db env st) r p fun v st' x S' H' e1 r1 q p' => ?_
  have e : v = x := q
  subst e
  cases v with
  | true =>
    rw [if_pos rfl] at p' ⊢
    exact h4 S' σ H' env st' D r1 (p'.later (e1.toS env σ))
  | false =>
    rw [if_neg Bool.false_ne_true] at p' ⊢
    exact h6 S' σ H' env st' D r1 (p'.later (e1.toS env σ))

/-! ### an own list changed -/
theorem SR.write {K : PySem.W.Frag} {S : Gh} {H : Hp} {σ env st} (r : SR K Z S σ H env st) {i : Nat} {s s' : Slot} {l : Addr} {o : HO} (e : env[i]? = some (some s)) (ow : s.isOwn = true) (q : σ[i]? = some (some (.ref l))) (hl : ∃ u, H l = some u ∧ Frz u) (g : Ng S l)
    (ow' : s'.isOwn = true) (hs : SlR K Z S (upd H l o) s' (.ref l)) : SR K Z S σ (upd H l o) (env.set i (some s')) st ∧ ExtS S H env σ S (upd H l o) (env.set i (some s')) σ := by
  obtain ⟨u, hl, fz⟩ := hl
  have hi : i < env.length := (List.getElem?_eq_some_iff.mp e).1
  have hown : OwnA env σ l := ⟨i, s, e, ow, q⟩
  refine ⟨⟨wf_upd r.wf g, str_upd r.str hl g (frz_sy fz), by rw [List.length_set]; exact r.len, fun j t h => ?_, fun j k sj sk a njk h1 o1 h2 a2 q1 q2 => ?_⟩, ⟨⟨[], by simp⟩, Same.refl _, fun a h => .inl h, fun a u' h n no => ?_, fun a h => ?_, fun a h => .inl h, fun a h => ?_, List.length_set, fun j t h h1 h2 => ?_⟩⟩
  · rcases set_some h with ⟨rfl, rfl⟩ | ⟨nj, h⟩
    · exact ⟨_, q, hs⟩
    · obtain ⟨x, k1, k2⟩ := r.sl j t h
      refine ⟨x, k1, ?_⟩
      have na : t.isAddr = true → ∀ a, x = .ref a → a ≠ l := fun at_ a ea z => r.sep i j s t l (Ne.symm nj) e ow h at_ q (by rw [k1, ea, z])
      cases t with
      | val v => exact k2
      | exn c => exact k2
      | fnv g => exact fnv_sy k2 (sy_upd hl (frz_sy fz))
      | own vs =>
        obtain ⟨a, xs, rfl, z1, z2⟩ := k2
        exact ⟨a, xs, rfl, by rw [upd_ne (na rfl a rfl)]; exact z1, z2⟩
      | brw vs =>
        obtain ⟨a, xs, rfl, z1, z2⟩ := k2
        exact ⟨a, xs, rfl, ⟨by rw [upd_ne (na rfl a rfl)]; exact z1.h, z1.m⟩, z2⟩
      | ownd ks vs =>
        obtain ⟨a, xs, rfl, z1, z2⟩ := k2
        exact ⟨a, xs, rfl, by rw [upd_ne (na rfl a rfl)]; exact z1, z2⟩
      | brwd ks vs =>
        obtain ⟨a, xs, rfl, z1, z2⟩ := k2
        have z := na rfl a rfl
        exact ⟨a, xs, rfl, ⟨z1.h.imp (fun q => (upd_ne z).trans q) fun ⟨o, q⟩ => ⟨o, (upd_ne z).trans q⟩, z1.m⟩, z2⟩
      | lkd ks vs =>
        obtain ⟨a, xs, rfl, z1, z2⟩ := k2
        have z := na rfl a rfl
        exact ⟨a, xs, rfl, ⟨z1.h.imp fun o q => (upd_ne z).trans q, z1.m⟩, z2⟩
  · rcases set_some h1 with ⟨rfl, rfl⟩ | ⟨nj, h1⟩
    · rw [List.getElem?_set_ne njk] at h2
      exact r.sep j k s sk a njk e ow h2 a2 q1 q2
    · rcases set_some h2 with ⟨ek, es⟩ | ⟨nk, h2⟩
      · rw [ek] at q2 njk
        exact r.sep j i sj s a njk h1 o1 e (own_addr ow) q1 q2
      · exact r.sep j k sj sk a njk h1 o1 h2 a2 q1 q2
  · have na : a ≠ l := fun z => no (z ▸ hown)
    rw [upd_ne na]
    exact h
  · by_cases z : a = l
    · rw [z, upd_same]; simp
    · rw [upd_ne z]; exact h
  · obtain ⟨j, t, k1, k2, k3⟩ := h
    rcases set_some k1 with ⟨rfl, rfl⟩ | ⟨nj, k1⟩
    · exact .inl ⟨j, s, e, ow, k3⟩
    · exact .inl ⟨j, t, k1, k2, k3⟩
  · rcases set_some h with ⟨rfl, rfl⟩ | ⟨nj, h⟩
    · rw [ow'] at h2; cases h2
    · exact ⟨h, rfl⟩
/-- x.append(e) -/
@[simp] def dAppend (i : Nat) (d : DP) : DS := fun env st => match env[i]? with
  | some (some (.own vs)) => dExpS (d env st) env fun v st => if vs.length < sizeLine then .nx (env.set i (some (.own (vs ++ [v])))) st else .bad
  | _ => .bad
theorem tyV_lst {K : PySem.W.Frag} {H : Hp} {l : Addr} {xs : List V} (h : H l = some (.lst xs)) : tyV K "list" (.ref l) H := .inl ⟨rfl, _, .inl (.inl h)⟩
theorem ms_append {i : Nat} {x : Str} {e : Expr} {d : DP} {p apos cpos pos : Pos} (hx : PE X (.Name x p) (tVar i)) (h : MV Z X W e d)
    (hs : swapsWith (.Call (.Attribute (.Name x p) "append" apos) [e] [] cpos) none pos.line X.env = pure false := by rfl)
    (hbase : attributeBase (.Name x p) "append" X.env (eval (.Name x p) X.env) = eval (.Name x p) X.env := by rfl)
    (hfew : ((backTo cpos (starEach (e :: []) X.env)).all (fun x => !x.1) && (backToKw cpos (keywordEach [] X.env)).all (fun x => x.1.isSome)
      && decide ((e :: []).length + ([] : List Keyword).length + (if ([] : List Keyword).isEmpty then 0 else 1) < 30)) = true := by rfl)
    (hline : (apos.endLine == cpos.line) = true := by rfl) (hst : starEach (e :: []) X.env = (false, eval e X.env) :: starEach [] X.env := by rfl) (hplain : (backTo cpos (starEach [] X.env)).any (·.1) = false := by rfl) :
    MS Z X W (.Expr (.Call (.Attribute (.Name x p) "append" apos) [e] [] cpos) pos) (dAppend i d) := by
  obtain ⟨t, h1, h2⟩ := h
  refine ⟨_, ps_expr (pe_bm PySem.F.plainAttrs_list PySem.F.slot_list_append PySem.F.type_list_append mt_append hx (pa_cons h1 pa_nil hst) hbase hfew hline hst hplain) hs, fun S σ H env st D r p => ?_⟩
  unfold dAppend at p
  split at p
  · rename_i vs ei
    obtain ⟨x, k1, k2⟩ := r.sl i _ ei
    obtain ⟨l, xs, rfl, hl, g, rl⟩ := id k2
    refine ⟨_, k1, tyV_lst hl, h2 S σ H env st _ r ?_⟩
    refine PostS.of_any (RP := rpV X.K Z H) (f := fun v st => if vs.length < sizeLine then .nx (env.set i (some (.own (vs ++ [v])))) st else .bad) r p fun v st' y S' H' e1 r1 q p' => ?_
    obtain ⟨x2, k3, k4⟩ := r1.sl i _ ei
    rw [k1] at k3
    cases k3
    obtain ⟨l', xs', el, hl', g', rl'⟩ := k4
    cases el
    by_cases hz : vs.length < sizeLine
    · rw [if_pos hz] at p'
      refine ⟨l, xs', y, rfl, rfl, hl', by rw [← repL_length rl']; exact hz, ?_⟩
      obtain ⟨r2, e2⟩ := r1.write (o := .lst (xs' ++ [y])) (s' := .own (vs ++ [v])) ei rfl k1 ⟨_, hl', trivial⟩ g' rfl ⟨l, _, rfl, upd_same, g', repL_append rl' (repL_cons q repL_nil)⟩
      exact p' S' σ _ ((e1.toS env σ).trans e2) r2
    · rw [if_neg hz] at p'
      exact p'.elim
  · exact p.elim
end
end Eg

namespace Eg
open PySem L2
/-! ### what a for walks -/
/-- the untracked ones but the own ones stay -/
def Fr (S : Gh) (H : Hp) (env : Evn) (σ : St) (H' : Hp) : Prop := ∀ a o, H a = some o → Kp S a o → ¬ OwnA env σ a → H' a = some o
/-- J yields these -/
def Gives (K : PySem.W.Frag) (Z : Stc) (S : Gh) (H : Hp) (env : Evn) (σ : St) (J : It) (vs : List Val) : Prop :=
  ∀ (i : Nat) S2 H2, Fr S H env σ H2 → Mon S S2 → Wf S2 H2 → (vs.length ≤ i → J.stop i H2) ∧
    ∀ v, vs[i]? = some v → J.go i H2 ∧ ∀ x H3, J.yld i H2 x H3 → ∃ S3, ExtP S2 H2 S3 H3 ∧ Rep K Z S3 v x
abbrev DI := Evn → Store → Out (List Val)
def SndI (K : PySem.W.Frag) (Z : Stc) (W : WX) (wi : TI) (d : DI) : Prop := ∀ S σ H env st R, SR K Z S σ H env st →
  Post K Z S H (fun S' H' vs J => Gives K Z S' H' env σ J vs) R (fun c dd H' => W c dd σ H') (d env st) → wi σ H R
def MI (Z : Stc) (X : Cx) (W : WX) (tg iter : Expr) (d : DI) : Prop := ∃ wi, PI X tg iter wi ∧ SndI X.K Z W wi d
def dForGo (T : Tgt) (b : DS) : List Val → DS
  | [], env, st => .nx env st
  | v :: vs, env, st => match setT T (.val v) env with
    | none => .bad
    | some env1 => match b env1 st with
      | .nx env2 st2 => dForGo T b vs env2 st2
      | .ct env2 st2 => dForGo T b vs env2 st2
      | .bk env2 st2 => .nx env2 st2
      | o => o
@[simp] def dFor (di : DI) (T : Tgt) (b : DS) : DS := fun env st => dExpS (di env st) env fun vs st => dForGo T b vs env st
section
variable {K : PySem.W.Frag} {Z : Stc} {S S' S1 : Gh} {H H' H1 : Hp} {W : WX}
theorem ExtS.fr {env σ env' σ'} (e : ExtS S H env σ S' H' env' σ') : Fr S H env σ H' := e.frame
/-- the items from i on, with the loop's end -/
theorem for_go {g : TG} {T : Tgt} {tb : TS} {b : DS} {J : It} {vs : List Val} {env0 σ0 S0 H0 D} (hg : SndG K Z g T) (hb : SndS K Z W tb b) (gv : Gives K Z S0 H0 env0 σ0 J vs)
    {σ : St} {H : Hp} {env : Evn} {st : Store} (e : ExtS S0 H0 env0 σ0 S H env σ) (r : SR K Z S σ H env st) (p : PostS K Z S H env σ D W (dForGo T b vs env st)) :
    ∃ Wn : Nat → Nat → St → Hp → Prop, (∃ m, Wn 0 m σ H) ∧ ∀ i m σ H, Wn i m σ H →
      (J.stop i H ∧ D.nx σ H) ∨ (J.go i H ∧ ∃ N : St → Hp → Prop, (∀ σ' H', N σ' H' → ∃ m', m' < m ∧ Wn (i + 1) m' σ' H') ∧ ∀ x H', J.yld i H x H' → g x σ H' fun σ2 H2 => tb { D with nx := N, ct := N, bk := D.nx } σ2 H2) := by
  refine ⟨fun i m σ H => m = vs.length - i ∧ i ≤ vs.length ∧ ∃ S env st, ExtS S0 H0 env0 σ0 S H env σ ∧ SR K Z S σ H env st ∧ PostS K Z S H env σ D W (dForGo T b (vs.drop i) env st),
    ⟨vs.length, by simp, Nat.zero_le _, S, env, st, e, r, p⟩, ?_⟩
  rintro i m σ H ⟨rfl, hi, S, env, st, e, r, p⟩
  obtain ⟨g1, g2⟩ := gv i S H e.fr e.mon r.wf
  by_cases hlt : i < vs.length
  · have hv : vs[i]? = some vs[i] := List.getElem?_eq_getElem hlt
    have hd : vs.drop i = vs[i] :: vs.drop (i + 1) := List.drop_eq_getElem_cons hlt
    rw [hd] at p
    simp only [dForGo] at p
    obtain ⟨h1, h2⟩ := g2 _ hv
    refine .inr ⟨h1, fun σ' H' => i + 1 ≤ vs.length ∧ ∃ S env st, ExtS S0 H0 env0 σ0 S H' env σ' ∧ SR K Z S σ' H' env st ∧ PostS K Z S H' env σ' D W (dForGo T b (vs.drop (i + 1)) env st),
      fun σ' H' ⟨q1, q2⟩ => ⟨vs.length - (i + 1), by omega, rfl, q1, q2⟩, fun x H' hy => ?_⟩
    obtain ⟨S3, e3, rep⟩ := h2 x H' hy
    have r3 := r.ext e3.ext e3.wf (r.str.extP e3)
    have e4 := e.trans (e3.ext.toS env σ)
    have p3 := p.later (e3.ext.toS env σ)
    cases es : setT T (.val vs[i]) env with
    | none => simp only [es, PostS] at p3
    | some env1 =>
      simp only [es] at p3
      refine hg S3 H' env σ S3 σ H' env st (.val vs[i]) x _ env1 (ExtS.refl ..) r3 rep (fun _ _ => .inr rfl) es fun σ1 e5 r5 => ?_
      have p5 := p3.later e5
      have e6 := e4.trans e5
      refine hb S3 σ1 H' env1 st _ r5 ?_
      cases eb : b env1 st with
      | nx env2 st2 =>
        simp only [eb] at p5
        exact fun S' σ' H'' e7 r7 => ⟨hlt, S', env2, st2, e6.trans e7, r7, p5.later e7⟩
      | ct env2 st2 =>
        simp only [eb] at p5
        exact fun S' σ' H'' e7 r7 => ⟨hlt, S', env2, st2, e6.trans e7, r7, p5.later e7⟩
      | bk env2 st2 =>
        simp only [eb] at p5
        exact p5
      | rt r st2 =>
        simp only [eb] at p5
        exact p5
      | exc c fs env2 st2 =>
        simp only [eb] at p5
        exact p5
      | bad =>
        simp only [eb] at p5
        exact p5
  · have ei : i = vs.length := by omega
    rw [ei, List.drop_length] at p
    refine .inl ⟨g1 (by omega), ?_⟩
    exact p S σ H (ExtS.refl ..) r
theorem snd_for {wi : TI} {g : TG} {tb : TS} {di : DI} {T : Tgt} {b : DS} (hi : SndI K Z W wi di) (hg : SndG K Z g T) (hb : SndS K Z W tb b) : SndS K Z W (tFor wi g tb) (dFor di T b) := by
  intro S σ H env st D r p
  refine hi S σ H env st _ r ?_
  refine PostS.of_any (RP := fun S' H' vs J => Gives K Z S' H' env σ J vs) (f := fun vs st => dForGo T b vs env st) r p fun vs st' J S' H' e1 r1 q p' => ?_
  exact for_go hg hb q (ExtS.refl ..) r1 (p'.later (e1.toS env σ))

/-! ### the sources -/
theorem gives_list {env σ a xs vs} (h : ∀ H2, Fr S H env σ H2 → SqL K H2 a xs) (r : RepL K Z S vs xs) : Gives K Z S H env σ (Itl K a) vs := by
  intro i S2 H2 f m w2
  have h2 := h H2 f
  refine ⟨fun hl => ⟨xs, h2, by rw [← repL_length r]; exact hl⟩, fun v hv => ?_⟩
  obtain ⟨x, e1, e2⟩ := repL_get r hv
  refine ⟨⟨xs, x, h2, e1⟩, fun y H3 hy => ?_⟩
  obtain ⟨rfl, hy⟩ := hy
  have e := hy xs h2
  rw [e1] at e
  cases e
  exact ⟨S2, ExtP.refl w2, Rep.mono m _ _ e2⟩
theorem gives_tup {env σ a xs vs} (h : ∀ H2, Fr S H env σ H2 → SqT K H2 a xs) (r : RepL K Z S vs xs) : Gives K Z S H env σ (Itt K a) vs := by
  intro i S2 H2 f m w2
  have h2 := h H2 f
  refine ⟨fun hl => ⟨xs, h2, by rw [← repL_length r]; exact hl⟩, fun v hv => ?_⟩
  obtain ⟨x, e1, e2⟩ := repL_get r hv
  refine ⟨⟨xs, x, h2, e1⟩, fun y H3 hy => ?_⟩
  obtain ⟨rfl, hy⟩ := hy
  have e := hy xs h2
  rw [e1] at e
  cases e
  exact ⟨S2, ExtP.refl w2, Rep.mono m _ _ e2⟩
def iOr (a b : TI) : TI := fun σ H R => a σ H R ∨ b σ H R
theorem pi_or {X : Cx} {tg l : Expr} {a b : TI} (h : PI X tg l a) (h' : PI X tg l b) : PI X tg l (iOr a b) :=
  ⟨fun pins s σ H R I q => q.elim (h.run pins s σ H R I) (h'.run pins s σ H R I)⟩
end
/-- items of a value that is walked -/
@[simp] def itemsO (v : Val) (st : Store) : Out (List Val) := match itemsOf v with | some vs => .ok vs st | none => .bad
@[simp] def dItems (d : DE) : DI := fun env st => (d env st).bind fun r st => itemsO r.v st
section
variable {Z : Stc} {X : Cx} {W : WX}
theorem not_own_G {K : PySem.W.Frag} {S : Gh} {H : Hp} {σ env st} (r : SR K Z S σ H env st) {a} (h : S.G a ≠ none) : ¬ OwnA env σ a := fun ⟨i, s, e, o, q⟩ => by
  obtain ⟨x, h1, h2⟩ := r.sl i s e
  rw [q] at h1
  cases h1
  cases s with
  | val v => cases o
  | exn c => cases o
  | fnv g => cases o
  | brw vs => cases o
  | brwd ks vs => cases o
  | lkd ks vs => cases o
  | own vs =>
    obtain ⟨l, xs, e1, _, e3, _⟩ := h2
    cases e1
    exact h e3.g
  | ownd ks vs =>
    obtain ⟨l, xs, e1, _, e3, _⟩ := h2
    cases e1
    exact h e3.g
/-- what is frozen stays -/
theorem fr_G {K : PySem.W.Frag} {S : Gh} {H : Hp} {σ env st} (r : SR K Z S σ H env st) {H2} (f : Fr S H env σ H2) : Same S.G H2 := fun a o e =>
  f a o (r.wf.same _ _ e) ⟨g_mt r.wf (by rw [e]; simp), fun ps z => by
    have q := r.wf.frz a o e
    rw [z] at q
    exact q⟩ (not_own_G r (by rw [e]; simp))
def isTp : Val → Bool | .tup _ => true | _ => false
/-- the things that a for may walk -/
theorem seq_src {K : PySem.W.Frag} {S S1 : Gh} {H H1 : Hp} {σ env st st1} {rr : R} {x : V} {vs : List Val} (r0 : SR K Z S σ H env st) (r1 : SR K Z S1 σ H1 env st1) (q : RR K Z S1 H H1 rr x) (e : itemsOf rr.v = some vs) :
    ∃ a xs, x = .ref a ∧ ((isTp rr.v = false ∧ ∀ H2, Fr S1 H1 env σ H2 → SqL K H2 a xs) ∨ (isTp rr.v = true ∧ ∀ H2, Fr S1 H1 env σ H2 → SqT K H2 a xs)) ∧ RepL K Z S1 vs xs := by
  cases rr with
  | own ws =>
    cases e
    obtain ⟨l, xs, rfl, h1, h2, h3, h4⟩ := q
    exact ⟨l, xs, rfl, .inl ⟨rfl, fun H2 f => .inl (.inl (f _ _ h1 (kp_of h2.m) fun z => own_live r0 z h3))⟩, h4⟩
  | ownd ks ws => cases e
  | val v =>
    cases v with
    | lst ws =>
      cases e
      simp only [RR, Rep] at q
      obtain ⟨l, xs, rfl, h1, h2⟩ := q
      exact ⟨l, xs, rfl, .inl ⟨rfl, fun H2 f => .inl (.inl (fr_G r1 f _ _ h1))⟩, h2⟩
    | slst ws =>
      cases e
      simp only [RR, Rep] at q
      obtain ⟨l, xs, rfl, h1, h2⟩ := q
      exact ⟨l, xs, rfl, .inl ⟨rfl, fun H2 f => sqL_at (fr_G r1 f l) h1⟩, h2⟩
    | tup ws =>
      cases e
      simp only [RR, Rep] at q
      obtain ⟨l, xs, rfl, h1, h2⟩ := q
      exact ⟨l, xs, rfl, .inr ⟨rfl, fun H2 f => sqT_mono (fr_G r1 f) h1⟩, h2⟩
    | _ => cases e
theorem snd_items {K : PySem.W.Frag} {te : TE} {d : DE} (h : Snd K Z W (rpE K Z) te d) : SndI K Z W (iOr (iList K te) (iTup K te)) (dItems d) := by
  intro S σ H env st R r p
  cases ed : d env st with
  | bad => simp only [dItems, ed, Out.bind, Post] at p
  | exc c fs st1 =>
    simp only [dItems, ed, Out.bind, Post] at p
    refine .inl (h S σ H env st _ r ?_)
    rw [ed]
    exact p
  | ok rr st1 =>
    simp only [dItems, ed, Out.bind, itemsO] at p
    cases ei : itemsOf rr.v with
    | none => simp only [ei, Post] at p
    | some vs =>
      simp only [ei, Post] at p
      cases ht : isTp rr.v with
      | true =>
        refine .inr (h S σ H env st _ r ?_)
        rw [ed]
        intro x S1 H1 e1 w1 s1 q
        have r1 := r.ext e1 w1 s1
        obtain ⟨a, xs, rfl, hs, hr⟩ := seq_src r r1 q ei
        rcases hs with ⟨z, hs⟩ | ⟨z, hs⟩
        · rw [z] at ht; cases ht
        · exact ⟨a, rfl, ⟨xs, hs H1 fun _ _ z _ _ => z⟩, p _ S1 H1 e1 w1 s1 (gives_tup hs hr)⟩
      | false =>
        refine .inl (h S σ H env st _ r ?_)
        rw [ed]
        intro x S1 H1 e1 w1 s1 q
        have r1 := r.ext e1 w1 s1
        obtain ⟨a, xs, rfl, hs, hr⟩ := seq_src r r1 q ei
        rcases hs with ⟨z, hs⟩ | ⟨z, hs⟩
        · exact ⟨a, rfl, ⟨xs, hs H1 fun _ _ z _ _ => z⟩, p _ S1 H1 e1 w1 s1 (gives_list hs hr)⟩
        · rw [z] at ht; cases ht
theorem mi_items {tg e : Expr} {d : DE} (h : ME Z X W e d) : MI Z X W tg e (dItems d) := by
  obtain ⟨t, h1, h2⟩ := h
  exact ⟨_, pi_or (pi_list h1) (pi_tup h1), snd_items h2⟩
/-- a local name that holds a lent list or a value -/
@[simp] def dItemsV (i : Nat) : DI := fun env st => match env[i]? with
  | some (some (.val v)) => itemsO v st | some (some (.brw vs)) => .ok vs st | _ => .bad
theorem brw_not_own {K : PySem.W.Frag} {S : Gh} {H : Hp} {σ env st} (r : SR K Z S σ H env st) {i : Nat} {s : Slot} {a} (e : env[i]? = some (some s)) (ha : s.isAddr = true) (no : s.isOwn = false) (q : σ[i]? = some (some (.ref a))) : ¬ OwnA env σ a := fun ⟨j, t, e1, o, q1⟩ => by
  by_cases hj : j = i
  · subst hj
    rw [e] at e1
    cases e1
    rw [no] at o; cases o
  · exact r.sep j i t s a hj e1 o e ha q1 q
theorem mi_var {tg : Expr} {x : Str} {p : Pos} (i : Nat) (h : PE X (.Name x p) (tVar i)) : MI Z X W tg (.Name x p) (dItemsV i) := by
  refine ⟨_, pi_or (pi_list h) (pi_tup h), fun S σ H env st R r po => ?_⟩
  unfold dItemsV at po
  split at po
  · rename_i v ei
    have := snd_items (W := W) (te := tVar i) (d := dVarF i) (K := X.K) (Z := Z) (by
      intro S σ H env st Q r p
      unfold dVarF at p
      cases e : env[i]? with
      | none => simp only [e, Post] at p
      | some o =>
        cases o with
        | none => simp only [e, Post] at p
        | some s =>
          obtain ⟨x, h1, h2⟩ := r.sl i s e
          refine ⟨x, h1, ?_⟩
          cases s with
          | exn c => simp only [e, Post] at p
          | fnv g => simp only [e, Post] at p
          | val v =>
            simp only [e, Post] at p
            exact p x S H (Ext.refl S H) r.wf r.str h2
          | own vs => simp only [e, Post] at p
          | brw vs => simp only [e, Post] at p
          | ownd ks vs => simp only [e, Post] at p
          | brwd ks vs => simp only [e, Post] at p
          | lkd ks vs => simp only [e, Post] at p) S σ H env st R r
    refine this ?_
    simp only [dItems, dVarF, ei, Out.bind, Eg.R.v]
    exact po
  · rename_i vs ei
    obtain ⟨x, h1, h2⟩ := r.sl i _ ei
    obtain ⟨l, xs, rfl, hl, hr⟩ := h2
    have no := brw_not_own r ei rfl rfl h1
    refine .inl ⟨_, h1, l, rfl, ⟨xs, .inl (.inl hl.h)⟩, po _ S H (Ext.refl S H) r.wf r.str (gives_list (fun H2 f => .inl (.inl (f _ _ hl.h (kp_of hl.m) no))) hr)⟩
  · exact po.elim
/-! range -/
def rgI (lo : Int) : Nat → List Val
  | 0 => []
  | n + 1 => .int lo :: rgI (lo + 1) n
theorem rgI_length : ∀ (n : Nat) (lo : Int), (rgI lo n).length = n
  | 0, _ => rfl
  | n + 1, lo => by
    show (rgI (lo + 1) n).length + 1 = n + 1
    rw [rgI_length n]
theorem rgI_get : ∀ (n : Nat) (lo : Int) (i : Nat) v, (rgI lo n)[i]? = some v → v = .int (lo + i) ∧ i < n
  | 0, _, _, _, h => by simp [rgI] at h
  | n + 1, lo, 0, v, h => by
    simp [rgI] at h
    subst h
    exact ⟨by simp, by omega⟩
  | n + 1, lo, i + 1, v, h => by
    have h' : (rgI (lo + 1) n)[i]? = some v := by simpa [rgI] using h
    obtain ⟨e, l⟩ := rgI_get n (lo + 1) i v h'
    refine ⟨?_, by omega⟩
    rw [e]
    congr 1
    omega
theorem gives_range {K : PySem.W.Frag} {S : Gh} {H : Hp} {env σ} (lo : Int) (n : Nat) : Gives K Z S H env σ (Itr lo n) (rgI lo n) := by
  intro i S2 H2 f m w2
  rw [rgI_length]
  refine ⟨fun h => h, fun v hv => ?_⟩
  obtain ⟨rfl, h⟩ := rgI_get n lo i v hv
  refine ⟨h, fun x H3 hy => ?_⟩
  obtain ⟨rfl, rfl⟩ := hy
  exact ⟨S2, ExtP.refl w2, by simp only [Rep]⟩
noncomputable def rgOk (j : Int) : Bool := cB (-(2 ^ 62) ≤ j ∧ j < 2 ^ 62)
noncomputable def gRng : List Val → Option (List Val)
  | [.int j] => if rgOk j then some (rgI 0 j.toNat) else none
  | [.int i, .int j] => if rgOk i ∧ rgOk j then some (rgI i (j - i).toNat) else none
  | _ => none
@[simp] noncomputable def dRng (ds : List DP) : DI := fun env st => (dVals ds env st).bind fun vs st => fromO (gRng vs) st
theorem mi_range1 {tg a : Expr} {d : DP} {p pos : Pos} (h : MPs Z X W [a] (dVals [d])) (hm : X.mg "range" = none) (hg : Gl X "range" := by rfl) (hs : starEach [a] X.env = [(false, eval a X.env)] := by rfl) : MI Z X W tg (.Call (.Name "range" p) [a] [] pos) (dRng [d]) := by
  obtain ⟨t, h1, h2⟩ := h
  refine ⟨_, pi_range1 hg hm h1 hs, fun S σ H env st R r po => h2 S σ H env st _ r ?_⟩
  simp only [dRng] at po
  cases ed : dVals [d] env st with
  | bad => simp only [ed, Out.bind, Post] at po
  | exc c fs st1 =>
    simp only [ed, Out.bind, Post] at po ⊢
    exact po
  | ok vs st1 =>
    simp only [ed, Out.bind] at po
    intro xs S1 H1 e1 w1 s1 q
    have hl := dVals_length ed
    match vs, hl with
    | [v], _ =>
      obtain ⟨x, rfl, pv⟩ := prep1 q.p
      cases v with
      | int j =>
        simp only [gRng] at po
        split at po
        · rename_i hj
          have hj' : -(2 ^ 62) ≤ j ∧ j < 2 ^ 62 := of_cB hj
          exact ⟨j, by rw [show x = V.int j by simpa only [PRep, Rep] using pv], hj'.1, hj'.2, po _ S1 H1 e1 w1 s1 (gives_range 0 _)⟩
        · exact False.elim po
      | _ => exact False.elim po
theorem mi_range2 {tg a b : Expr} {da db : DP} {p pos : Pos} (h : MPs Z X W [a, b] (dVals [da, db])) (hm : X.mg "range" = none) (hg : Gl X "range" := by rfl) (hs : starEach [a, b] X.env = [(false, eval a X.env), (false, eval b X.env)] := by rfl) (hs2 : starEach [b] X.env = [(false, eval b X.env)] := by rfl) : MI Z X W tg (.Call (.Name "range" p) [a, b] [] pos) (dRng [da, db]) := by
  obtain ⟨t, h1, h2⟩ := h
  refine ⟨_, pi_range2 hg hm h1 hs hs2, fun S σ H env st R r po => h2 S σ H env st _ r ?_⟩
  simp only [dRng] at po
  cases ed : dVals [da, db] env st with
  | bad => simp only [ed, Out.bind, Post] at po
  | exc c fs st1 =>
    simp only [ed, Out.bind, Post] at po ⊢
    exact po
  | ok vs st1 =>
    simp only [ed, Out.bind] at po
    intro xs S1 H1 e1 w1 s1 q
    have hl := dVals_length ed
    match vs, hl with
    | [v, u], _ =>
      obtain ⟨x, y, rfl, pv, pu⟩ := prep2 q.p
      cases v with
      | int i =>
        cases u with
        | int j =>
          simp only [gRng] at po
          split at po
          · rename_i hj
            have h1' : -(2 ^ 62) ≤ i ∧ i < 2 ^ 62 := of_cB hj.1
            have h2' : -(2 ^ 62) ≤ j ∧ j < 2 ^ 62 := of_cB hj.2
            exact ⟨i, j, by rw [show x = V.int i by simpa only [PRep, Rep] using pv, show y = V.int j by simpa only [PRep, Rep] using pu], ⟨h1'.1, h1'.2, h2'.1, h2'.2⟩, po _ S1 H1 e1 w1 s1 (gives_range i _)⟩
          · exact False.elim po
        | _ => exact False.elim po
      | _ => exact False.elim po

/-! ### for, while -/
theorem ms_for {tg iter : Expr} {body : List Stmt} {di : DI} {T : Tgt} {b : DS} {pos : Pos} (hp : PassesOwn (model X.prog X.w) X.A X.env X.xe) (hc : X.calm = true) (hi : MI Z X W tg iter di) (hg : MG X tg T) (hb : MSs Z X W body b)
    (hs : ∀ x, foldedSetIterable iter X.env x = pure x := by intro _; rfl) : MS Z X W (.For tg iter body [] pos) (dFor di T b) := by
  obtain ⟨wi, h1, h2⟩ := hi
  obtain ⟨t, h5, h6⟩ := hb
  exact ⟨_, ps_for hp hc h1 hg h5 hs, snd_for h2 (sndG T) h6⟩
def dWhileGo (c : DT) (b : DS) : Nat → DS
  | 0, _, _ => .bad
  | n + 1, env, st => dExpS (c env st) env fun k st1 => if k = true then (match b env st1 with
      | .nx env2 st2 => dWhileGo c b n env2 st2
      | .ct env2 st2 => dWhileGo c b n env2 st2
      | .bk env2 st2 => .nx env2 st2
      | o => o) else .nx env st1
def dWhile (f : Evn → Nat) (c : DT) (b : DS) : DS := fun env st => dWhileGo c b (f env) env st
theorem ms_while {c : Expr} {body : List Stmt} {dc : DT} {b : DS} {pos : Pos} (f : Evn → Nat) (hp : PassesOwn (model X.prog X.w) X.A X.env X.xe) (hc : MT Z X W c dc) (hb : MSs Z X W body b) : MS Z X W (.While c body [] pos) (dWhile f dc b) := by
  obtain ⟨t, h1, h2⟩ := hc
  obtain ⟨tb, h3, h4⟩ := hb
  refine ⟨_, ps_while hp h1 h3, fun S0 σ0 H0 env0 st0 D r0 p0 => ?_⟩
  refine ⟨fun m σ H => ∃ S env st, ExtS S0 H0 env0 σ0 S H env σ ∧ SR X.K Z S σ H env st ∧ PostS X.K Z S H env σ D W (dWhileGo dc b m env st), ⟨_, S0, env0, st0, ExtS.refl .., r0, p0⟩, ?_⟩
  rintro m σ H ⟨S, env, st, e, r, p⟩
  cases m with
  | zero => exact p.elim
  | succ n =>
    refine h2 S σ H env st _ r ?_
    simp only [dWhileGo] at p
    refine PostS.of_any r p fun k st1 k' S1 H1 e1 r1 q p1 => ?_
    have ek : k = k' := q
    subst ek
    have p2 := p1.later (e1.toS env σ)
    have e2 := e.trans (e1.toS env σ)
    cases k with
    | false =>
      rw [if_neg Bool.false_ne_true] at p2 ⊢
      exact p2 S1 σ H1 (ExtS.refl ..) r1
    | true =>
      rw [if_pos rfl] at p2 ⊢
      refine ⟨fun σ' H' => ∃ S env st, ExtS S0 H0 env0 σ0 S H' env σ' ∧ SR X.K Z S σ' H' env st ∧ PostS X.K Z S H' env σ' D W (dWhileGo dc b n env st), fun σ' H' q => ⟨n, by omega, q⟩, ?_⟩
      refine h4 S1 σ H1 env st1 _ r1 ?_
      cases eb : b env st1 with
      | nx env2 st2 =>
        simp only [eb] at p2
        exact fun S' σ' H'' e7 r7 => ⟨S', env2, st2, e2.trans e7, r7, p2.later e7⟩
      | ct env2 st2 =>
        simp only [eb] at p2
        exact fun S' σ' H'' e7 r7 => ⟨S', env2, st2, e2.trans e7, r7, p2.later e7⟩
      | bk env2 st2 => simp only [eb] at p2; exact p2
      | rt r st2 => simp only [eb] at p2; exact p2
      | exc c fs env2 st2 => simp only [eb] at p2; exact p2
      | bad => simp only [eb] at p2; exact p2

/-! ### a def's denotation -/
@[simp] def Arg.slot : Arg → Slot
  | .val v => .val v | .brw vs => .brw vs | .brwd ks vs => .brwd ks vs | .fnv g => .fnv g
def finO (o : OutS) : Out R := match o with
  | .rt r st' => .ok r st' | .nx _ st' => .ok (.val .non) st' | .exc c fs _ st' => .exc c fs st' | _ => .bad
@[simp] theorem finO_rt (r st) : finO (.rt r st) = .ok r st := rfl
@[simp] theorem finO_nx (e st) : finO (.nx e st) = .ok (.val .non) st := rfl
@[simp] theorem finO_exc (c fs e st) : finO (.exc c fs e st) = .exc c fs st := rfl
@[simp] theorem finO_ite {p : Prop} [Decidable p] (a b : OutS) : finO (if p then a else b) = if p then finO a else finO b := by split <;> rfl
@[simp] def dFun (N : Nat) (b : DS) : FD := fun args st => finO (b (args.map (fun a => some a.slot) ++ List.replicate (N - args.length) none) st)
theorem argsR_get {K : PySem.W.Frag} {S : Gh} {H : Hp} : ∀ {as : List Arg} {xs : List V} {i : Nat} {a}, ArsR K Z S H as xs → as[i]? = some a → ∃ x, xs[i]? = some x ∧ ArR K Z S H a x
  | [], _, _, _, _, e => by simp at e
  | b :: as, xs, 0, a, h, e => by
    simp only [ArsR] at h
    obtain ⟨x, r, rfl, h1, t⟩ := h
    simp at e
    subst e
    exact ⟨x, rfl, h1⟩
  | b :: as, xs, i + 1, a, h, e => by
    simp only [ArsR] at h
    obtain ⟨x, r, rfl, h1, t⟩ := h
    obtain ⟨y, e1, e2⟩ := argsR_get (i := i) t (by simpa using e)
    exact ⟨y, by simpa using e1, e2⟩
theorem start_get {α β : Type} {f : α → β} {l : List α} {n i : Nat} {s : β} (h : (l.map (fun a => some (f a)) ++ List.replicate n none)[i]? = some (some s)) : ∃ a, l[i]? = some a ∧ f a = s := by
  by_cases hi : i < l.length
  · rw [List.getElem?_append_left (by simpa using hi), List.getElem?_map] at h
    cases e : l[i]? with
    | none => rw [e] at h; cases h
    | some a =>
      rw [e] at h
      exact ⟨a, rfl, by simpa using h⟩
  · rw [List.getElem?_append_right (by simpa using hi)] at h
    obtain ⟨_, e⟩ := List.getElem?_eq_some_iff.mp h
    simp at e
theorem fun_den {P : Program} {w : World} {K : PySem.W.Frag} {mg : Str → Option Value} {base : Heap} {x qual : Str} {st : Stmt} {f : Addr} {fd : FuncData} {N ps : List Str} {k : Nat} {b : DS} (F : Fun K x qual st f fd) (S : FnScope N ps (defScope st))
    (hbody : ∀ (cdv : Value) (A : Around) (outer : List Env) (s : Shared) (H : Hp) (E : XK), Room k (cxOf (L2.CX P w) P w K mg base N qual (defScope st) f cdv A outer s H E).A →
      PassesOwn (model P w) (cxOf (L2.CX P w) P w K mg base N qual (defScope st) f cdv A outer s H E).A (cxOf (L2.CX P w) P w K mg base N qual (defScope st) f cdv A outer s H E).env (cxOf (L2.CX P w) P w K mg base N qual (defScope st) f cdv A outer s H E).xe →
      Takes (cxOf (L2.CX P w) P w K mg base N qual (defScope st) f cdv A outer s H E) (fun cls d _ H => E cls d H) → MSs Z (cxOf (L2.CX P w) P w K mg base N qual (defScope st) f cdv A outer s H E) (fun cls d _ H => E cls d H) (defBody st) b) : FnOk P w K mg base (L2.CX P w) (k + 1) f fd ps (spD K Z (dFun N.length b) ps.length) := by
  refine F.okX S (fun vs H Q E h => ?_) (fun cdv A outer s H vs Q E hr h => ?_)
  · obtain ⟨_, _, _, _, _, _, hl, _⟩ := h
    exact hl
  · obtain ⟨S0, st0, args, w0, s0, ar, hl, po⟩ := h
    obtain ⟨t, h1, h2⟩ := hbody cdv A outer s H E hr (passes_of rfl) (takes_of rfl rfl rfl rfl)
    refine ⟨t, h1, ?_⟩
    have hargs : args.length = vs.length := ArsR.length ar
    refine h2 S0 _ H (args.map (fun a => some a.slot) ++ List.replicate (N.length - args.length) none) st0 _ ⟨w0, s0, ?_, fun i s e => ?_, fun i j si sj l nij e1 o1 e2 a2 q1 q2 => ?_⟩ ?_
    · unfold L2.start
      simp [hargs]
    · obtain ⟨a, ea, es⟩ := start_get e
      obtain ⟨y, e1, e2⟩ := argsR_get ar ea
      refine ⟨y, ?_, ?_⟩
      · unfold L2.start
        have hi : i < vs.length := (List.getElem?_eq_some_iff.mp e1).1
        rw [List.getElem?_append_left (by simpa using hi), List.getElem?_map, e1]
        rfl
      · rw [← es]
        cases a <;> exact e2
    · obtain ⟨a, ea, es⟩ := start_get e1
      rw [← es] at o1
      cases a <;> cases o1
    · simp only [dFun, finO] at po
      cases eb : b (args.map (fun a => some a.slot) ++ List.replicate (N.length - args.length) none) st0 with
      | bad => simp only [eb, Post] at po
      | bk env' st' => simp only [eb, Post] at po
      | ct env' st' => simp only [eb, Post] at po
      | nx env' st' =>
        simp only [eb, Post] at po
        intro S' σ' H' e r
        have no : ∀ a, ¬ OwnA (args.map (fun a => some a.slot) ++ List.replicate (N.length - args.length) none) (L2.start N vs) a := fun a ⟨i, s, e1, o1, _⟩ => by
          obtain ⟨a, ea, es⟩ := start_get e1
          rw [← es] at o1
          cases a <;> cases o1
        exact po .non S' H' ⟨e.pre, e.sg, fun a h => (e.fresh a h).elim .inl fun z => z.elim .inr fun z => absurd z (no a), fun a o h n => e.frame a o h n (no a), e.live, e.rfresh⟩ r.wf r.str (by simp only [RR, Rep])
      | rt rr st' =>
        simp only [eb, Post] at po
        intro x S' H' e w' s' q
        have no : ∀ a, ¬ OwnA (args.map (fun a => some a.slot) ++ List.replicate (N.length - args.length) none) (L2.start N vs) a := fun a ⟨i, s, e1, o1, _⟩ => by
          obtain ⟨a, ea, es⟩ := start_get e1
          rw [← es] at o1
          cases a <;> cases o1
        refine po x S' H' ⟨e.pre, e.sg, fun a h => (e.fresh a h).elim .inl fun z => z.elim .inr fun z => absurd z (no a), fun a o h n => e.frame a o h n (no a), e.live, e.rfresh⟩ w' s' ?_
        cases rr with
        | val v => exact q
        | own vs =>
          obtain ⟨l, xs, e1, e2, e3, e4, e5⟩ := q
          exact ⟨l, xs, e1, e2, e3, e4.elim id fun z => absurd z (no l), e5⟩
        | ownd ks vs =>
          obtain ⟨l, xs, e1, e2, e3, e4, e5⟩ := q
          exact ⟨l, xs, e1, e2, e3, e4.elim id fun z => absurd z (no l), e5⟩
      | exc c fs env' st' =>
        simp only [eb, Post] at po
        intro cls d S' σ' H' e r xr
        have no : ∀ a, ¬ OwnA (args.map (fun a => some a.slot) ++ List.replicate (N.length - args.length) none) (L2.start N vs) a := fun a ⟨i, s, e1, o1, _⟩ => by
          obtain ⟨a, ea, es⟩ := start_get e1
          rw [← es] at o1
          cases a <;> cases o1
        exact po cls d S' H' ⟨e.pre, e.sg, fun a h => (e.fresh a h).elim .inl fun z => z.elim .inr fun z => absurd z (no a), fun a o h n => e.frame a o h n (no a), e.live, e.rfresh⟩ r.wf r.str xr
end

/-! ### the law's own promise -/
theorem rep_ints (K : PySem.W.Frag) (Z : Stc) (S : Gh) : ∀ ns : List Int, RepL K Z S (ns.map Val.int) (ns.map V.int) := repL_ints fun _ => rfl
theorem no_mt {G : Hp} {dd : List Nat} {a : Addr} {p : Prop} (h : Gh.mt ⟨[], G, dd⟩ a) : p := by
  obtain ⟨i, e, _⟩ := h
  exact absurd e (by simp)
theorem law_sp {K : PySem.W.Frag} {Z : Stc} {D : FD} {H : Hp} {a : Addr} {ns : List Int} (hT : NdefX.TabsN Z.T H) (hS : SqL K H a (ns.map V.int)) (h : ∃ st, D [.val (.slst (ns.map Val.int))] [] = .ok (.val (.bl true)) st) :
    spD K Z D 1 [.ref a] H (fun v _ => v = .bl true) fun _ _ _ => False := by
  obtain ⟨st, h⟩ := h
  have key : ∀ S : Gh, Wf S H → S.rho = [] ∧ S.dd = [] → SqL K S.G a (ns.map V.int) → spD K Z D 1 [.ref a] H (fun v _ => v = .bl true) fun _ _ _ => False := fun S w ⟨e, ed⟩ q => by
    refine ⟨S, [], [.val (.slst (ns.map Val.int))], w, ⟨hT, by rw [e]; rfl, fun i j a z => by rw [e] at z; simp at z, by rw [ed]; exact fun _ z => by simp at z, fun i o z => by simp at z⟩, ?_, rfl, ?_⟩
    · simp only [ArsR, ArR, Rep]
      exact ⟨_, _, rfl, ⟨a, _, rfl, q, rep_ints K Z S ns⟩, rfl⟩
    · rw [h]
      intro x S' H' _ _ _ r
      simpa only [RR, Rep] using r
  rcases hS with (hS | ⟨o, hS⟩) | hS
  · refine key ⟨[], fun b => if b = a then H a else none, []⟩ ⟨fun b u z => ?_, fun b u z => ?_, fun _ m => no_mt m, fun _ m => no_mt m⟩ ⟨rfl, rfl⟩ (.inl (.inl (by show (if a = a then H a else none) = _; rw [if_pos rfl, hS])))
    · have z' : (if b = a then H a else none) = some u := z
      split at z'
      · rename_i e; rw [e]; exact z'
      · cases z'
    · have z' : (if b = a then H a else none) = some u := z
      split at z'
      · rw [hS] at z'; cases z'; trivial
      · cases z'
  · refine key ⟨[], fun b => if b = a then H a else none, []⟩ ⟨fun b u z => ?_, fun b u z => ?_, fun _ m => no_mt m, fun _ m => no_mt m⟩ ⟨rfl, rfl⟩ (.inl (.inr ⟨o, by show (if a = a then H a else none) = _; rw [if_pos rfl, hS]⟩))
    · have z' : (if b = a then H a else none) = some u := z
      split at z'
      · rename_i e; rw [e]; exact z'
      · cases z'
    · have z' : (if b = a then H a else none) = some u := z
      split at z'
      · rw [hS] at z'; cases z'; trivial
      · cases z'
  · exact key ⟨[], fun _ => none, []⟩ ⟨fun _ _ z => (by cases z), fun _ _ z => (by cases z), fun _ m => no_mt m, fun _ m => no_mt m⟩ ⟨rfl, rfl⟩ (.inr hS)
theorem cx_no {P : Program} {w : World} {H : Hp} {s s' : Shared} {e : Value} (h : L2.CX P w [] H s (fun _ _ _ => False) e s') : False := by
  obtain ⟨_, _, _, _, _, _, _, _, _, _, _, _, q⟩ := h
  exact q
end Eg

namespace Eg
open PySem L2
/-! ### readings by denotations -/
def tOf {α β : Type} (K : PySem.W.Frag) (Z : Stc) (W : WX) (RP : Hp → Gh → Hp → α → β → Prop) (d : Evn → Store → Out α) : CT β := fun σ H Q => ∃ S env st, SR K Z S σ H env st ∧ Post K Z S H (RP H) Q (fun c dd H' => W c dd σ H') (d env st)
def W0 : WX := fun _ _ _ _ => False
section
variable {Z : Stc} {X : Cx} {W : WX}
theorem pe_of {e : Expr} {α : Type} {RP : Hp → Gh → Hp → α → V → Prop} {d : Evn → Store → Out α} (h : ∃ t, PE X e t ∧ Snd X.K Z W RP t d) : PE X e (tOf X.K Z W RP d) := by
  obtain ⟨t, h1, h2⟩ := h
  exact ⟨fun pins s σ H Q I ⟨S, env, st, r, p⟩ => h1.run pins s σ H Q I (h2 S σ H env st Q r p)⟩
theorem pt_of {e : Expr} {d : DT} (h : MT Z X W e d) : PT X e (tOf X.K Z W rpT d) := by
  obtain ⟨t, h1, h2⟩ := h
  exact ⟨fun pins s σ H Q I ⟨S, env, st, r, p⟩ => h1.run pins s σ H Q I (h2 S σ H env st Q r p)⟩
/-! ### comprehensions -/
@[simp] def wipeE (env : Evn) : List Nat → Evn
  | [] => env
  | v :: vs => (wipeE env vs).set v none
theorem wipeE_length (env : Evn) : ∀ vs : List Nat, (wipeE env vs).length = env.length
  | [] => rfl
  | v :: vs => by unfold wipeE; rw [List.length_set, wipeE_length env vs]
theorem wipeE_some {env : Evn} {i : Nat} {x : Slot} : ∀ {vs : List Nat}, (wipeE env vs)[i]? = some (some x) → env[i]? = some (some x) ∧ i ∉ vs
  | [], h => ⟨h, by simp⟩
  | v :: vs, h => by
    unfold wipeE at h
    by_cases e : i = v
    · subst e
      by_cases hl : i < (wipeE env vs).length
      · rw [List.getElem?_set_self hl] at h; cases h
      · rw [List.getElem?_eq_none (by simpa using hl)] at h; cases h
    · rw [List.getElem?_set_ne (Ne.symm e)] at h
      obtain ⟨a, b⟩ := wipeE_some h
      exact ⟨a, fun m => (List.mem_cons.mp m).elim e b⟩
theorem SR.wipe {K : PySem.W.Frag} {S : Gh} {H : Hp} {σ env st} (r : SR K Z S σ H env st) (vs : List Nat) : SR K Z S (L2.wipe σ vs) H (wipeE env vs) st := by
  refine ⟨r.wf, r.str, by rw [wipe_length, wipeE_length]; exact r.len, fun i s h => ?_, fun i j si sj l nij h1 o1 h2 a2 q1 q2 => ?_⟩
  · obtain ⟨e, n⟩ := wipeE_some h
    obtain ⟨x, k1, k2⟩ := r.sl i s e
    exact ⟨x, by rw [wipe_out n]; exact k1, k2⟩
  · obtain ⟨e1, n1⟩ := wipeE_some h1
    obtain ⟨e2, n2⟩ := wipeE_some h2
    rw [wipe_out n1] at q1
    rw [wipe_out n2] at q2
    exact r.sep i j si sj l nij e1 o1 e2 a2 q1 q2
/-- a thing outside all slots changed -/
theorem SR.out {K : PySem.W.Frag} {S : Gh} {H : Hp} {σ env st} (r : SR K Z S σ H env st) {D : Addr} {o : HO} (hD : ∃ u, H D = some u ∧ Frz u) (g : Ng S D) (n : ¬ AddrA env σ D) : SR K Z S σ (upd H D o) env st := by
  obtain ⟨u, hD, fz⟩ := hD
  exact r.updS hD g (frz_sy fz) fun i s a b c => n ⟨i, s, a, b, c⟩
theorem Ext.out {S S1 : Gh} {H H1 : Hp} (e : Ext S H S1 H1) {D : Addr} {o : HO} (h : H D = none) : Ext S H S1 (upd H1 D o) :=
  ⟨e.pre, e.sg, e.fresh, fun a u q n => by rw [upd_ne (ne_of_none q h)]; exact e.frame a u q n, fun a q => by
    by_cases z : a = D
    · rw [z, upd_same]; simp
    · rw [upd_ne z]; exact e.live a q, e.rfresh⟩
def dCompGo (T : Tgt) (t : DT) (d : DP) (env : Evn) : List Val → List Val → Store → Out R
  | [], acc, st => .ok (.own acc) st
  | v :: r, acc, st => match setT T (.val v) env with
    | none => .bad
    | some env1 => (t env1 st).calm.bind fun b st => if b = true then (d env1 st).calm.bind fun w st => if acc.length < sizeLine then dCompGo T t d env r (acc ++ [w]) st else .bad else dCompGo T t d env r acc st
@[simp] def dComp (di : DI) (ws : List Nat) (T : Tgt) (t : DT) (d : DP) : DE := fun env st => (di env st).bind fun vs st => dCompGo T t d (wipeE env ws) vs [] st
@[simp] def dYes : DT := fun _ st => .ok true st
def MTs (Z : Stc) (X : Cx) (W : WX) (ifs : List Expr) (d : DT) : Prop := ∃ t, PTs X ifs t ∧ Snd X.K Z W rpT t d
theorem mts_nil : MTs Z X W [] dYes := ⟨_, pts_nil, fun S σ H env st Q r p => p true S H (Ext.refl S H) r.wf r.str rfl⟩
theorem mts_one {c : Expr} {d : DT} (h : MT Z X W c d) : MTs Z X W [c] d := let ⟨t, h1, h2⟩ := h; ⟨t, pts_one h1, h2⟩
theorem pts_of {ifs : List Expr} {d : DT} (h : MTs Z X W ifs d) : PTs X ifs (tOf X.K Z W rpT d) := by
  obtain ⟨t, h1, h2⟩ := h
  exact ⟨fun pins s σ H Q I ⟨S, env, st, r, p⟩ => h1.run pins s σ H Q I (h2 S σ H env st Q r p)⟩
theorem snd_comp {K : PySem.W.Frag} {wi : TI} {di : DI} {T : Tgt} {t : DT} {d : DP} {ws : List Nat} (hi : SndI K Z W wi di)
    (hT : ∀ (σ : St) (x : V) (H : Hp) (Q : St → Hp → Prop), gT K T x (wipe σ ws) H Q → gT K T x (wipe σ ws) H fun σ2 H2 => wipe σ2 ws = wipe σ ws ∧ Q σ2 H2) :
    Snd K Z W (rpE K Z) (tLc wi (gT K T) (tOf K Z W0 rpT t) (tOf K Z W0 (rpV K Z) d) ws) (dComp di ws T t d) := by
  intro S0 σ H0 env st0 Q r0 p0
  refine hi S0 σ H0 env st0 _ r0 ?_
  cases ei : di env st0 with
  | bad => simp only [dComp, ei, Out.bind, Post] at p0
  | exc c fs st1 =>
    simp only [dComp, ei, Out.bind, Post] at p0 ⊢
    exact p0
  | ok items st1 =>
    simp only [dComp, ei, Out.bind] at p0
    intro J S1 H1 e1 w1 s1 gv D hD
    have r1 := r0.ext e1 w1 s1
    have hD0 : H0 D = none := none_of_live e1.live hD
    have nA : ¬ AddrA (wipeE env ws) (wipe σ ws) D := fun ⟨i, s, a, b, c⟩ => by
      obtain ⟨a', n⟩ := wipeE_some a
      rw [wipe_out n] at c
      exact addr_live r1 ⟨i, s, a', b, c⟩ hD
    refine ⟨fun i m H => m = items.length - i ∧ i ≤ items.length ∧ ∃ S st av acc, Ext S1 H1 S H ∧ SR K Z S (wipe σ ws) H (wipeE env ws) st ∧ H D = some (.lst acc) ∧ Ng S D ∧ RepL K Z S av acc ∧
      Post K Z S0 H0 (rpE K Z H0) Q (fun c dd H' => W c dd σ H') (dCompGo T t d (wipeE env ws) (items.drop i) av st), ⟨items.length, by simp, Nat.zero_le _, S1, st1, [], [], ?_⟩, ?_⟩
    · have E := ExtP.new w1 hD (o := .lst [])
      exact ⟨E.ext, (r1.wipe ws).ext E.ext E.wf (s1.extP E), upd_same, ng_none w1 hD, repL_nil, p0⟩
    · rintro i m H ⟨rfl, hi, S, st, av, acc, e, r, hacc, gD, ra, p⟩
      obtain ⟨g1, g2⟩ := gv i S H (fun a o h n _ => e.frame a o h n) e.mon r.wf
      by_cases hlt : i < items.length
      · have hv : items[i]? = some items[i] := List.getElem?_eq_getElem hlt
        have hd : items.drop i = items[i] :: items.drop (i + 1) := List.drop_eq_getElem_cons hlt
        rw [hd] at p
        simp only [dCompGo] at p
        obtain ⟨h1, h2⟩ := g2 _ hv
        refine .inr ⟨h1, fun H => i + 1 ≤ items.length ∧ ∃ S st av acc, Ext S1 H1 S H ∧ SR K Z S (wipe σ ws) H (wipeE env ws) st ∧ H D = some (.lst acc) ∧ Ng S D ∧ RepL K Z S av acc ∧
          Post K Z S0 H0 (rpE K Z H0) Q (fun c dd H' => W c dd σ H') (dCompGo T t d (wipeE env ws) (items.drop (i + 1)) av st), fun H' ⟨q1, q2⟩ => ⟨items.length - (i + 1), by omega, rfl, q1, q2⟩, fun x H' hy => ?_⟩
        obtain ⟨S3, e3, rep⟩ := h2 x H' hy
        have r3 := r.ext e3.ext e3.wf (r.str.extP e3)
        have e4 := e.trans e3.ext
        cases es : setT T (.val items[i]) (wipeE env ws) with
        | none => simp only [es, Post] at p
        | some env1 =>
          simp only [es] at p
          refine hT σ x H' _ (sndG T S3 H' (wipeE env ws) (wipe σ ws) S3 _ H' (wipeE env ws) st (.val items[i]) x _ env1 (ExtS.refl ..) r3 rep (fun _ _ => .inr rfl) es fun σ1 e5 r5 => ?_)
          refine ⟨S3, env1, st, r5, ?_⟩
          have hacc3 : H' D = some (.lst acc) := e3.same _ _ hacc
          have gD3 : Ng S3 D := gD.ext e3.ext hacc
          have stepD : ∀ {S4 H4 S5 H5}, Ext S4 H4 S5 H5 → Wf S4 H4 → H4 D = some (.lst acc) → Ng S4 D → H5 D = some (.lst acc) ∧ Ng S5 D := fun {S4 H4 S5 H5} ee w4 hh gg => ⟨ee.frame _ _ hh (kp_of gg.m), gg.ext ee hh⟩
          cases et : t env1 st with
          | bad => simp only [et, Out.calm, Out.bind, Post] at p
          | exc c fs st2 => simp only [et, Out.calm, Out.bind, Post] at p
          | ok b st2 =>
            simp only [et, Out.calm, Out.bind] at p
            intro b' S5 H5 e5' w5 s5 qb
            have eb : b = b' := qb
            subst eb
            obtain ⟨k1, k2⟩ := stepD e5' r5.wf hacc3 gD3
            have e6 := e4.trans e5'
            cases b with
            | false =>
              rw [if_neg Bool.false_ne_true] at p ⊢
              exact ⟨hlt, S5, st2, av, acc, e6, r3.ext e5' w5 s5, k1, k2, RepL.mono (e3.ext.mon.trans e5'.mon) _ _ ra, p⟩
            | true =>
              rw [if_pos rfl] at p ⊢
              refine ⟨S5, env1, st2, r5.ext e5' w5 s5, ?_⟩
              cases ed : d env1 st2 with
              | bad => simp only [ed, Post] at p
              | exc c fs st3 => simp only [ed, Post] at p
              | ok w st3 =>
                simp only [ed] at p
                intro y S7 H7 e7 w7 s7 qy
                obtain ⟨k3, k4⟩ := stepD e7 w5 k1 k2
                by_cases hz : av.length < sizeLine
                · rw [if_pos hz] at p
                  have r7 := (r3.ext e5' w5 s5).ext e7 w7 s7
                  have m7 := (e3.ext.mon.trans e5'.mon).trans e7.mon
                  refine ⟨acc, k3, by rw [← repL_length ra]; exact hz, hlt, S7, st3, av ++ [w], acc ++ [y], (e6.trans e7).out hD, r7.out ⟨_, k3, trivial⟩ k4 nA, upd_same, k4, repL_append (RepL.mono m7 _ _ ra) (repL_cons qy repL_nil), p⟩
                · rw [if_neg hz] at p
                  exact p.elim
      · have ei' : i = items.length := by omega
        rw [ei', List.drop_length] at p
        refine .inl ⟨g1 (by omega), ?_⟩
        refine p _ S H (e1.trans e) r.wf r.str ?_
        exact ⟨D, acc, rfl, hacc, gD, hD0, ra⟩
theorem wipe_in {σ : St} {i : Nat} {x : Option V} : ∀ {vs : List Nat}, i ∈ vs → wipe (σ.set i x) vs = wipe σ vs
  | [], h => by cases h
  | v :: vs, h => by
    unfold wipe
    by_cases m : i ∈ vs
    · rw [wipe_in m]
    · have e : i = v := (List.mem_cons.mp h).resolve_right m
      subst e
      have c : ∀ (ws : List Nat), i ∉ ws → wipe (σ.set i x) ws = (wipe σ ws).set i x := by
        intro ws
        induction ws with
        | nil => intro _; rfl
        | cons u ws ih =>
          intro hn
          unfold wipe
          rw [ih fun z => hn (List.mem_cons_of_mem _ z), List.set_comm]
          exact fun z => hn (z ▸ List.mem_cons_self)
      rw [c vs m, List.set_set]
theorem wipe_wipe {σ : St} : ∀ {vs : List Nat}, wipe (wipe σ vs) vs = wipe σ vs := by
  intro vs
  have gen : ∀ (ws : List Nat), (∀ i ∈ ws, i ∈ vs) → wipe (wipe σ ws) vs = wipe σ vs := by
    intro ws
    induction ws with
    | nil => intro _; rfl
    | cons u ws ih =>
      intro h
      show wipe ((wipe σ ws).set u none) vs = wipe σ vs
      rw [wipe_in (h u List.mem_cons_self), ih fun i m => h i (List.mem_cons_of_mem _ m)]
  exact gen vs fun _ m => m
def tIn (ws : List Nat) : Tgt → Bool
  | .nm i => ws.contains i
  | .tp is => is.all ws.contains
  | .tl is => is.all ws.contains
theorem gNames_keep {ws : List Nat} : ∀ {is : List Nat} {xs : List V} {σ : St} {H : Hp} {Q : St → Hp → Prop}, is.all ws.contains = true → gNames is xs σ H Q → gNames is xs σ H fun σ2 H2 => wipe σ2 ws = wipe σ ws ∧ Q σ2 H2
  | [], xs, σ, H, Q, _, ⟨e, q⟩ => ⟨e, rfl, q⟩
  | i :: is, xs, σ, H, Q, h, ⟨v, r, e, q⟩ => by
    have hh : ws.contains i = true ∧ is.all ws.contains = true := by simpa using h
    have k := gNames_keep hh.2 q
    rw [wipe_in (by simpa using hh.1)] at k
    exact ⟨v, r, e, k⟩
theorem gT_keep {K : PySem.W.Frag} {ws : List Nat} {T : Tgt} (h : tIn ws T = true) (σ : St) (x : V) (H : Hp) (Q : St → Hp → Prop) (g : gT K T x (wipe σ ws) H Q) : gT K T x (wipe σ ws) H fun σ2 H2 => wipe σ2 ws = wipe σ ws ∧ Q σ2 H2 := by
  cases T with
  | nm i =>
    have hi : i ∈ ws := by simpa [tIn] using h
    exact ⟨by rw [wipe_in hi, wipe_wipe], g⟩
  | tp is =>
    obtain ⟨a, xs, e, s, l, q⟩ := g
    have k := gNames_keep (ws := ws) h q
    rw [wipe_wipe] at k
    exact ⟨a, xs, e, s, l, k⟩
  | tl is =>
    obtain ⟨a, xs, e, s, l, q⟩ := g
    have k := gNames_keep (ws := ws) h q
    rw [wipe_wipe] at k
    exact ⟨a, xs, e, s, l, k⟩
theorem me_lc {elt tg iter : Expr} {ifs : List Expr} {scope : Scope} {own : List (Str × Nat)} {pos : Pos} {di : DI} {T : Tgt} {t : DT} {d : DP} (hc : X.calm = true) (hN : X.N.Nodup) (hi : MI Z X W tg iter di) (ok : BlkOk X.N X.env.scope scope own) (hT : tIn (own.map (·.2)) T = true)
    (hg : ∀ (s : Shared) (H : Hp) (C : Addr) (cl : List (Str × Addr)) (fp : List Addr), MG (X.blk s H scope (compEnvC scope cl C X.env) fp) tg T)
    (ht : ∀ (s : Shared) (H : Hp) (C : Addr) (cl : List (Str × Addr)) (fp : List Addr), MTs Z (X.blk s H scope (compEnvC scope cl C X.env) fp) W0 ifs t)
    (he : ∀ (s : Shared) (H : Hp) (C : Addr) (cl : List (Str × Addr)) (fp : List Addr), MV Z (X.blk s H scope (compEnvC scope cl C X.env) fp) W0 elt d)
    (hs : ∀ x, foldedSetIterable iter X.env x = pure x := by intro _; rfl) :
    ME Z X W (.ListComp elt [⟨tg, iter, ifs, 0⟩] scope pos) (dComp di (own.map (·.2)) T t d) := by
  obtain ⟨wi, h1, h2⟩ := hi
  exact ⟨_, pe_lc (g := gT X.K T) (tt := tOf X.K Z W0 rpT t) (te := tOf X.K Z W0 (rpV X.K Z) d) hc hN h1 ok hg (fun s H C cl fp => pts_of (ht s H C cl fp)) (fun s H C cl fp => pe_of (he s H C cl fp)) hs, snd_comp h2 (gT_keep hT)⟩
theorem ms_setLc {i : Nat} {y : Str} {py : Pos} {elt tg iter : Expr} {ifs : List Expr} {scope : Scope} {own : List (Str × Nat)} {pos spos : Pos} {di : DI} {T : Tgt} {t : DT} {d : DP} (hc : X.calm = true) (hN : X.N.Nodup) (hy : X.N[i]? = some y) (hyl : X.env.scope.names.lookup y = some .local)
    (hsw : swapsWith (.ListComp elt [⟨tg, iter, ifs, 0⟩] scope pos) (some (.Name y py)) spos.line X.env = pure true) (hi : MI Z X W tg iter di) (ok : BlkOk X.N X.env.scope scope own) (hT : tIn (own.map (·.2)) T = true)
    (hg : ∀ (s : Shared) (H : Hp) (C : Addr) (cl : List (Str × Addr)) (fp : List Addr), MG (X.blk s H scope (compEnvC scope cl C X.env) fp) tg T)
    (ht : ∀ (s : Shared) (H : Hp) (C : Addr) (cl : List (Str × Addr)) (fp : List Addr), MTs Z (X.blk s H scope (compEnvC scope cl C X.env) fp) W0 ifs t)
    (he : ∀ (s : Shared) (H : Hp) (C : Addr) (cl : List (Str × Addr)) (fp : List Addr), MV Z (X.blk s H scope (compEnvC scope cl C X.env) fp) W0 elt d)
    (hs : ∀ x, foldedSetIterable iter X.env x = pure x := by intro _; rfl) :
    MS Z X W (.Assign [.Name y py] (.ListComp elt [⟨tg, iter, ifs, 0⟩] scope pos) spos) (dAsg (dComp di (own.map (·.2)) T t d) (.nm i)) := by
  obtain ⟨wi, h1, h2⟩ := hi
  refine ⟨_, ps_setLc (g := gT X.K T) (tt := tOf X.K Z W0 rpT t) (te := tOf X.K Z W0 (rpV X.K Z) d) hc hN hy hyl hsw h1 ok hg (fun s H C cl fp => pts_of (ht s H C cl fp)) (fun s H C cl fp => pe_of (he s H C cl fp)) hs, fun S σ H env st D r p => ?_⟩
  refine snd_comp h2 (gT_keep hT) S σ H env st _ r ?_
  refine PostS.of_any (f := fun r st => match setT (.nm i) r env with | some env' => .nx env' st | none => .bad) r p fun v st' x S' H' e1 r1 q p' => ?_
  simp only [setT] at p'
  by_cases hi2 : i < env.length
  · rw [if_pos hi2] at p'
    exact p' S' (σ.set i (some x)) H' ((e1.toS env σ).set slot_own fun a l el => .inl (q.new a l el)) (r1.set hi2 q.sl fun a l el z => addr_live r z (q.new a l el))
  · rw [if_neg hi2] at p'
    exact p'.elim
end
end Eg

namespace Eg
open PySem L2
section
variable {Z : Stc} {X : Cx} {W : WX}
/-! ### own lists frozen, locked -/
@[simp] def fzE (i : Nat) (env : Evn) : Evn := match env[i]? with
  | some (some (.own vs)) => env.set i (some (.val (.lst vs)))
  | some (some (.ownd ks vs)) => env.set i (some (.val (.dic ks vs)))
  | _ => env
@[simp] def dFz (i : Nat) (d : DS) : DS := fun env st => d (fzE i env) st
theorem set_same {σ : St} {i : Nat} {v : V} (h : σ[i]? = some (some v)) : σ.set i (some v) = σ := by
  apply List.ext_getElem?
  intro j
  by_cases z : j = i
  · subst z
    have hl : j < σ.length := (List.getElem?_eq_some_iff.mp h).1
    rw [List.getElem?_set_self hl, h]
  · rw [List.getElem?_set_ne (Ne.symm z)]
theorem upd_id {H : Hp} {l : Addr} {o : HO} (h : H l = some o) : upd H l o = H := by
  funext a
  by_cases z : a = l
  · rw [z, upd_same, h]
  · rw [upd_ne z]
theorem fz_step {K : PySem.W.Frag} {S : Gh} {H : Hp} {σ env st} (r : SR K Z S σ H env st) {i : Nat} {s : Slot} {l : Addr} {u o : HO} {v : Val} (e : env[i]? = some (some s)) (ow : s.isOwn = true) (q : σ[i]? = some (some (.ref l))) (hl : H l = some u) (fu : Frz u) (f : Frz o) (g : Ng S l)
    (hv : Rep K Z (S.add l o) v (.ref l)) : SR K Z (S.add l o) σ (upd H l o) (env.set i (some (.val v))) st ∧ ExtS S H env σ (S.add l o) (upd H l o) (env.set i (some (.val v))) σ := by
  have hi : i < env.length := (List.getElem?_eq_some_iff.mp e).1
  have hown : OwnA env σ l := ⟨i, s, e, ow, q⟩
  have m := mon_add (S := S) (o := o) g.g
  refine ⟨⟨wf_freeze (wf_upd r.wf g) upd_same f g, (str_upd r.str hl g (frz_sy fu)).freeze g.g, by rw [List.length_set]; exact r.len, fun j t h => ?_, fun j k sj sk a njk h1 o1 h2 a2 q1 q2 => ?_⟩, ⟨⟨[], by show S.rho = _; simp⟩, same_new g.g, fun a h => ?_, fun a v h _ no => ?_, fun a h => ?_, fun a h => .inl h, fun a h => ?_, List.length_set, fun j t h h1 h2 => ?_⟩⟩
  · rcases set_some h with ⟨rfl, rfl⟩ | ⟨nj, h⟩
    · exact ⟨_, q, hv⟩
    · obtain ⟨x, k1, k2⟩ := r.sl j t h
      refine ⟨x, k1, ?_⟩
      have na : t.isAddr = true → ∀ a, x = .ref a → a ≠ l := fun at_ a ea z => r.sep i j s t l (Ne.symm nj) e ow h at_ q (by rw [k1, ea, z])
      cases t with
      | val v => exact Rep.mono m _ _ k2
      | exn c => exact k2
      | fnv g => exact fnv_sy k2 (sy_upd hl (frz_sy fu))
      | own vs =>
        obtain ⟨a, xs, rfl, z1, z2, z3⟩ := k2
        have z := na rfl a rfl
        exact ⟨a, xs, rfl, (upd_ne z).trans z1, z2.freeze z, RepL.mono m _ _ z3⟩
      | brw vs =>
        obtain ⟨a, xs, rfl, z1, z3⟩ := k2
        exact ⟨a, xs, rfl, ⟨(upd_ne (na rfl a rfl)).trans z1.h, z1.m⟩, RepL.mono m _ _ z3⟩
      | ownd ks vs =>
        obtain ⟨a, xs, rfl, z1, z2, z3, z4⟩ := k2
        have z := na rfl a rfl
        exact ⟨a, xs, rfl, (upd_ne z).trans z1, z2.freeze z, z3, RepL.mono m _ _ z4⟩
      | brwd ks vs =>
        obtain ⟨a, xs, rfl, z1, z3, z4⟩ := k2
        have z := na rfl a rfl
        exact ⟨a, xs, rfl, ⟨z1.h.imp (fun q => (upd_ne z).trans q) fun ⟨o, q⟩ => ⟨o, (upd_ne z).trans q⟩, z1.m⟩, z3, RepL.mono m _ _ z4⟩
      | lkd ks vs =>
        obtain ⟨a, xs, rfl, z1, z3, z4⟩ := k2
        have z := na rfl a rfl
        exact ⟨a, xs, rfl, ⟨z1.h.imp fun o q => (upd_ne z).trans q, z1.m⟩, z3, RepL.mono m _ _ z4⟩
  · rcases set_some h1 with ⟨_, e1⟩ | ⟨nj, h1⟩
    · rw [e1] at o1; cases o1
    · rcases set_some h2 with ⟨_, e2⟩ | ⟨nk, h2⟩
      · rw [e2] at a2; cases a2
      · exact r.sep j k sj sk a njk h1 o1 h2 a2 q1 q2
  · by_cases z : a = l
    · rw [z]; exact .inr (.inr hown)
    · have h' : upd S.G l o a ≠ none := h
      rw [upd_ne z] at h'
      exact .inl h'
  · have na : a ≠ l := fun z => no (z ▸ hown)
    rw [upd_ne na]
    exact h
  · by_cases z : a = l
    · rw [z, upd_same]; simp
    · rw [upd_ne z]; exact h
  · obtain ⟨j, t, k1, k2, k3⟩ := h
    rcases set_some k1 with ⟨_, e1⟩ | ⟨nj, k1⟩
    · rw [e1] at k2; cases k2
    · exact .inl ⟨j, t, k1, k2, k3⟩
  · rcases set_some h with ⟨_, e1⟩ | ⟨nj, h⟩
    · rw [e1] at h1; cases h1
    · exact ⟨h, rfl⟩
/-- a dict stands still from here on -/
def tFzs (t : TS) : TS := fun D σ H => t D σ H ∨ ∃ l u, H l = some u ∧ Mut (some u) ∧ ∀ od, t D σ (upd H l (.frz od u))
theorem ps_fzs {s : Stmt} {t : TS} (h : PS X s t) : PS X s (tFzs t) := ⟨fun pins sh σ H D I q => by
  rcases q with q | ⟨l, u, e1, e2, q⟩
  · exact h.run pins sh σ H D I q
  · obtain ⟨od, I2⟩ := I.lock e1 e2
    exact h.run pins sh σ _ D I2 (q od)⟩
theorem snd_fz {K : PySem.W.Frag} {t : TS} {d : DS} (i : Nat) (h : SndS K Z W t d) : SndS K Z W (tFzs t) (dFz i d) := by
  intro S σ H env st D r p
  unfold dFz fzE at p
  split at p
  · rename_i vs e
    obtain ⟨x, h1, h2⟩ := r.sl i _ e
    obtain ⟨l, xs, rfl, hl, g, rl⟩ := h2
    obtain ⟨r2, e2⟩ := fz_step (o := .lst xs) (v := .lst vs) r e rfl h1 hl trivial trivial g (by simp only [Rep]; exact ⟨l, xs, rfl, upd_same, RepL.mono (mon_add g.g) _ _ rl⟩)
    rw [upd_id hl] at r2 e2
    exact .inl (h _ σ H _ st D r2 (p.later e2))
  · rename_i ks vs e
    obtain ⟨x, h1, h2⟩ := r.sl i _ e
    obtain ⟨l, xs, rfl, hl, g, hk, rl⟩ := h2
    refine .inr ⟨l, _, hl, trivial, fun od => ?_⟩
    obtain ⟨r2, e2⟩ := fz_step (o := .frz od (.dK xs)) (v := .dic ks vs) r e rfl h1 hl trivial trivial g (by simp only [Rep]; exact ⟨l, xs, rfl, ⟨od, upd_same⟩, hk, RepL.mono (mon_add g.g) _ _ rl⟩)
    exact h _ σ _ _ st D r2 (p.later e2)
  · exact .inl (h S σ H env st D r p)
theorem ms_fz {s : Stmt} {d : DS} (i : Nat) (h : MS Z X W s d) : MS Z X W s (dFz i d) := let ⟨t, h1, h2⟩ := h; ⟨_, ps_fzs h1, snd_fz i h2⟩
/-- the own list of slot i is only looked at meanwhile -/
@[simp] def unlock (i : Nat) (env : Evn) : Evn := match env[i]? with
  | some (some (.brw vs)) => env.set i (some (.own vs))
  | _ => env
def lkO (i : Nat) (o : OutS) : OutS := match o with
    | .nx env' st' => .nx (unlock i env') st'
    | .rt r st' => .rt r st'
    | .exc c fs env' st' => .exc c fs (unlock i env') st'
    | _ => .bad
@[simp] theorem lkO_nx (i e st) : lkO i (.nx e st) = .nx (unlock i e) st := rfl
@[simp] theorem lkO_rt (i r st) : lkO i (.rt r st) = .rt r st := rfl
@[simp] theorem lkO_exc (i c fs e st) : lkO i (.exc c fs e st) = .exc c fs (unlock i e) st := rfl
@[simp] theorem lkO_bad (i) : lkO i .bad = .bad := rfl
@[simp] theorem lkO_ite {p : Prop} [Decidable p] (i : Nat) (a b : OutS) : lkO i (if p then a else b) = if p then lkO i a else lkO i b := by split <;> rfl
@[simp] def dLock (i : Nat) (d : DS) : DS := fun env st => match env[i]? with
  | some (some (.own vs)) => lkO i (d (env.set i (some (.brw vs))) st)
  | _ => d env st
theorem unlock_step {K : PySem.W.Frag} {S S' : Gh} {H H' : Hp} {σ σ' env env' st st'} {i : Nat} {vs : List Val} {l : Addr} {xs : List V} (r : SR K Z S σ H env st) (e : env[i]? = some (some (.own vs))) (h1 : σ[i]? = some (some (.ref l))) (hl : H l = some (.lst xs)) (g : Ng S l) (rl : RepL K Z S vs xs)
    (ow : ∀ a, OwnA (env.set i (some (.brw vs))) σ a → OwnA env σ a ∧ a ≠ l) (e1 : ExtS S H (env.set i (some (.brw vs))) σ S' H' env' σ') (r1 : SR K Z S' σ' H' env' st') :
    SR K Z S' σ' H' (unlock i env') st' ∧ ExtS S H env σ S' H' (unlock i env') σ' := by
  have hi : i < env.length := (List.getElem?_eq_some_iff.mp e).1
  have hown : OwnA env σ l := ⟨i, _, e, rfl, h1⟩
  have nl : ¬ OwnA (env.set i (some (.brw vs))) σ l := fun z => (ow l z).2 rfl
  have lk : (env.set i (some (.brw vs)))[i]? = some (some (.brw vs)) := List.getElem?_set_self hi
  have fr : ∀ a, S'.G a ≠ none → S.G a ≠ none ∨ H a = none ∨ OwnA env σ a := fun a h => (e1.fresh a h).elim .inl fun z => .inr (z.imp id fun y => (ow a y).1)
  have fm : ∀ a o, H a = some o → Kp S a o → ¬ OwnA env σ a → H' a = some o := fun a o h n no => e1.frame a o h n fun y => no (ow a y).1
  unfold unlock
  split
  · rename_i ws eb
    obtain ⟨b1, b2⟩ := e1.brw i _ eb rfl rfl
    rw [lk] at b1
    cases b1
    have q' : σ'[i]? = some (some (.ref l)) := b2.trans h1
    have hi' : i < env'.length := (List.getElem?_eq_some_iff.mp eb).1
    have hl' : H' l = some (.lst xs) := e1.frame l _ hl (kp_of g.m) nl
    have g' : Ng S' l := by
      refine ⟨?_, fun m => ?_⟩
      · cases q : S'.G l with
        | none => rfl
        | some u =>
          rcases e1.fresh l (by rw [q]; simp) with z | z | z
          · exact absurd g.g z
          · rw [hl] at z; cases z
          · exact absurd z nl
      · rcases e1.rfresh l m with z | z
        · exact g.m z
        · rw [hl] at z; cases z
    have oth : ∀ (j : Nat) t, j ≠ i → env'[j]? = some (some t) → t.isAddr = true → σ'[j]? ≠ some (some (.ref l)) := fun j t nj k1 k2 k3 => by
      cases ho : t.isOwn with
      | true =>
        rcases e1.own l ⟨j, t, k1, ho, k3⟩ with z | z
        · exact nl z
        · rw [hl] at z; cases z
      | false =>
        obtain ⟨z1, z2⟩ := e1.brw j t k1 k2 ho
        rw [List.getElem?_set_ne (Ne.symm nj)] at z1
        rw [z2] at k3
        exact r.sep i j _ t l (Ne.symm nj) e rfl z1 k2 h1 k3
    refine ⟨⟨r1.wf, r1.str, by rw [List.length_set]; exact r1.len, fun j t h => ?_, fun j k sj sk a njk k1 o1 k2 a2 q1 q2 => ?_⟩, ⟨e1.pre, e1.sg, fr, fm, e1.live, e1.rfresh, fun a h => ?_, by rw [List.length_set]; exact e1.len.trans List.length_set, fun j t h t1 t2 => ?_⟩⟩
    · rcases set_some h with ⟨rfl, rfl⟩ | ⟨nj, h⟩
      · exact ⟨_, q', l, xs, rfl, hl', g', RepL.mono e1.mon _ _ rl⟩
      · exact r1.sl j t h
    · rcases set_some k1 with ⟨ej, es⟩ | ⟨nj, k1⟩
      · rw [ej, q'] at q1
        cases q1
        rw [ej] at njk
        rw [List.getElem?_set_ne njk] at k2
        exact oth k sk (Ne.symm njk) k2 a2 q2
      · rcases set_some k2 with ⟨ek, es⟩ | ⟨nk, k2⟩
        · rw [ek, q'] at q2
          cases q2
          exact oth j sj nj k1 (own_addr o1) q1
        · exact r1.sep j k sj sk a njk k1 o1 k2 a2 q1 q2
    · obtain ⟨j, t, k1, k2, k3⟩ := h
      rcases set_some k1 with ⟨ej, es⟩ | ⟨nj, k1⟩
      · rw [ej, q'] at k3
        cases k3
        exact .inl hown
      · exact (e1.own a ⟨j, t, k1, k2, k3⟩).imp (fun y => (ow a y).1) id
    · rcases set_some h with ⟨ej, es⟩ | ⟨nj, h⟩
      · rw [es] at t2; cases t2
      · obtain ⟨z1, z2⟩ := e1.brw j t h t1 t2
        rw [List.getElem?_set_ne (Ne.symm nj)] at z1
        exact ⟨z1, z2⟩
  · rename_i nb
    refine ⟨r1, ⟨e1.pre, e1.sg, fr, fm, e1.live, e1.rfresh, fun a h => (e1.own a h).imp (fun y => (ow a y).1) id, e1.len.trans List.length_set, fun j t h t1 t2 => ?_⟩⟩
    obtain ⟨z1, z2⟩ := e1.brw j t h t1 t2
    by_cases nj : j = i
    · rw [nj, lk] at z1
      cases z1
      rw [nj] at h
      exact absurd h (nb _)
    · rw [List.getElem?_set_ne (Ne.symm nj)] at z1
      exact ⟨z1, z2⟩
theorem snd_lock {K : PySem.W.Frag} {t : TS} {d : DS} (i : Nat) (h : SndS K Z W t d) : SndS K Z W t (dLock i d) := by
  intro S σ H env st D r p
  unfold dLock at p
  split at p
  · rename_i vs e
    have hi : i < env.length := (List.getElem?_eq_some_iff.mp e).1
    obtain ⟨x, h1, h2⟩ := r.sl i _ e
    obtain ⟨l, xs, rfl, hl, g, rl⟩ := h2
    have hown : OwnA env σ l := ⟨i, _, e, rfl, h1⟩
    have r2 : SR K Z S σ H (env.set i (some (.brw vs))) st := by
      refine ⟨r.wf, r.str, by rw [List.length_set]; exact r.len, fun j t h => ?_, fun j k sj sk a njk k1 o1 k2 a2 q1 q2 => ?_⟩
      · rcases set_some h with ⟨rfl, rfl⟩ | ⟨nj, h⟩
        · exact ⟨_, h1, l, xs, rfl, ⟨hl, g.m⟩, rl⟩
        · exact r.sl j t h
      · rcases set_some k1 with ⟨_, e1⟩ | ⟨nj, k1⟩
        · rw [e1] at o1; cases o1
        · rcases set_some k2 with ⟨ek, e2⟩ | ⟨nk, k2⟩
          · rw [ek] at q2 njk
            exact r.sep j i sj _ a njk k1 o1 e rfl q1 q2
          · exact r.sep j k sj sk a njk k1 o1 k2 a2 q1 q2
    have ow : ∀ a, OwnA (env.set i (some (.brw vs))) σ a → OwnA env σ a ∧ a ≠ l := fun a ⟨j, t, k1, k2, k3⟩ => by
      rcases set_some k1 with ⟨_, e1⟩ | ⟨nj, k1⟩
      · rw [e1] at k2; cases k2
      · refine ⟨⟨j, t, k1, k2, k3⟩, fun z => ?_⟩
        rw [z] at k3
        exact r.sep j i t _ l nj k1 k2 e rfl k3 h1
    refine h S σ H _ st D r2 ?_
    unfold lkO at p
    cases ed : d (env.set i (some (.brw vs))) st with
    | bad => simp only [ed, PostS] at p
    | bk _ _ => simp only [ed, PostS] at p
    | ct _ _ => simp only [ed, PostS] at p
    | rt rr st' =>
      simp only [ed, PostS] at p ⊢
      refine fun x S' H' e1 w1 s1 q => p x S' H' ⟨e1.pre, e1.sg, fun a h => (e1.fresh a h).elim .inl fun z => .inr (z.imp id fun y => (ow a y).1), fun a o h n no => e1.frame a o h n fun y => no (ow a y).1, e1.live, e1.rfresh⟩ w1 s1 ?_
      cases rr with
      | val v => exact q
      | own vs =>
        obtain ⟨l, xs, e1, e2, e3, e4, e5⟩ := q
        exact ⟨l, xs, e1, e2, e3, e4.imp id fun y => (ow l y).1, e5⟩
      | ownd ks vs =>
        obtain ⟨l, xs, e1, e2, e3, e4, e5⟩ := q
        exact ⟨l, xs, e1, e2, e3, e4.imp id fun y => (ow l y).1, e5⟩
    | exc c fs env' st' =>
      simp only [ed, PostS] at p ⊢
      refine fun cls dd S' σ' H' e1 r1 x1 => ?_
      obtain ⟨r3, e3⟩ := unlock_step r e h1 hl g rl ow e1 r1
      exact p cls dd S' σ' H' e3 r3 x1
    | nx env' st' =>
      simp only [ed, PostS] at p ⊢
      intro S' σ' H' e1 r1
      obtain ⟨r3, e3⟩ := unlock_step r e h1 hl g rl ow e1 r1
      exact p S' σ' H' e3 r3
  · exact h S σ H env st D r p
theorem ms_lock {s : Stmt} {d : DS} (i : Nat) (h : MS Z X W s d) : MS Z X W s (dLock i d) := let ⟨t, h1, h2⟩ := h; ⟨t, h1, snd_lock i h2⟩

/-! ### a op b op c -/
@[simp] def dChain (g g' : Val → Val → Option R) (a b c : DP) : DE := fun env st => (a env st).bind fun v st => (b env st).bind fun w st => match g v w with
  | some (.val (.bl true)) => (c env st).bind fun u st => fromO (g' w u) st
  | some (.val (.bl false)) => .ok (.val (.bl false)) st
  | _ => .bad
theorem snd_chain {K : PySem.W.Frag} {ta tb tc : TE} {da db dc : DP} {g g' : Val → Val → Option R} (ha : Snd K Z W (rpP K Z) ta da) (hb : Snd K Z W (rpP K Z) tb db) (hc : Snd K Z W (rpP K Z) tc dc) :
    Snd K Z W (rpE K Z) (tChain (rG K Z g) (rG K Z g') ta tb tc) (dChain g g' da db dc) := by
  intro S σ H env st Q r p
  refine ha S σ H env st _ r ?_
  simp only [dChain] at p
  cases ea : da env st with
  | bad => simp only [ea, Out.bind, Post] at p
  | exc c fs st1 =>
    simp only [ea, Out.bind, Post] at p ⊢
    exact p
  | ok v st1 =>
    simp only [ea, Out.bind] at p
    intro x S1 H1 e1 w1 s1 q1
    have r1 := r.ext e1 w1 s1
    refine hb S1 σ H1 env st1 _ r1 ?_
    cases eb : db env st1 with
    | bad => simp only [eb, Post] at p
    | exc c fs st2 =>
      simp only [eb, Post] at p ⊢
      exact fun cls d S' H' e3 w3 s3 x3 => p cls d S' H' (e1.trans e3) w3 s3 x3
    | ok w st2 =>
      simp only [eb] at p
      intro y S2 H2 e2 w2 s2 q2
      have r2 := r1.ext e2 w2 s2
      cases eg : g v w with
      | none => simp only [eg, Post] at p
      | some res =>
        refine ⟨S2, v, w, res, w2, (PRepS.ext r1.wf e2 q1).p, q2.p, eg, fun z S3 H3 e3 rr => ?_⟩
        have r3 := r2.ext e3.ext e3.wf (r2.str.extP e3)
        have e123 := (e1.trans e2).trans e3.ext
        cases res with
        | own _ => simp only [eg, Post] at p
        | ownd _ _ => simp only [eg, Post] at p
        | val u =>
          cases u with
          | bl k =>
            have ez : z = V.bl k := by simpa only [RR, Rep] using rr
            cases k with
            | false =>
              simp only [eg, Post] at p
              exact ⟨false, ez, p _ S3 H3 e123 r3.wf r3.str (by simp only [rpE, RR, Rep])⟩
            | true =>
              simp only [eg] at p
              refine ⟨true, ez, ?_⟩
              rw [if_pos rfl]
              refine hc S3 σ H3 env st2 _ r3 ?_
              cases ec : dc env st2 with
              | bad => simp only [ec, Post] at p
              | exc c fs st3 =>
                simp only [ec, Post] at p ⊢
                exact fun cls d S' H' e4 w4 s4 x4 => p cls d S' H' (e123.trans e4) w4 s4 x4
              | ok u st3 =>
                simp only [ec] at p
                intro y' S4 H4 e4 w4 s4 q4
                cases eg' : g' w u with
                | none => simp only [eg', fromO, Post] at p
                | some res' =>
                  simp only [eg', fromO, Post] at p
                  refine ⟨S4, w, u, res', w4, (PRepS.ext r3.wf e4 (PRepS.ext r2.wf e3.ext q2)).p, q4.p, eg', fun x' S' H' e5 rr' => ?_⟩
                  exact p x' S' H' ((e123.trans e4).trans e5.ext) e5.wf (s4.extP e5) (rr'.back fun a h => e4.live a (e123.live a h))
          | _ => simp only [eg, Post] at p
theorem me_chain {op op' : CmpOp} {g g' : Val → Val → Option R} {a b c : Expr} {da db dc : DP} {pos : Pos} (ho : OpS Z X (compareOp op) g) (ho' : OpS Z X (compareOp op') g') (ha : MP Z X W a da) (hb : MP Z X W b db) (hc : MP Z X W c dc)
    (hm : lastMarks [op, op'] [b, c] = false := by with_unfolding_all rfl) : ME Z X W (.Compare a [op, op'] [b, c] pos) (dChain g g' da db dc) := by
  obtain ⟨ta, h1, h2⟩ := ha
  obtain ⟨tb, h3, h4⟩ := hb
  obtain ⟨tc, h5, h6⟩ := hc
  exact ⟨_, pe_chain ho ho' h1 h3 h5 hm, snd_chain h2 h4 h6⟩
theorem mt_chain {op op' : CmpOp} {g g' : Val → Val → Option R} {a b c : Expr} {da db dc : DP} {pos : Pos} (ho : OpS Z X (compareOp op) g) (ho' : OpS Z X (compareOp op') g') (ha : MP Z X W a da) (hb : MP Z X W b db) (hc : MP Z X W c dc)
    (hm : lastMarks [op, op'] [b, c] = false := by with_unfolding_all rfl) : MT Z X W (.Compare a [op, op'] [b, c] pos) (dTB (dChain g g' da db dc)) := by
  obtain ⟨ta, h1, h2⟩ := ha
  obtain ⟨tb, h3, h4⟩ := hb
  obtain ⟨tc, h5, h6⟩ := hc
  exact ⟨_, pt_chain ho ho' h1 h3 h5 hm, snd_tb (snd_chain h2 h4 h6)⟩

/-! ### x[i] = e, x a local own list -/
@[simp] def dStore (i : Nat) (k : DP) (d : DP) : DS := fun env st => dExpS (d env st) env fun v st => match env[i]? with
  | some (some (.own vs)) => dExpS (k env st) env fun w st => match w with
    | .int n => match ixN vs.length n with
      | some j => .nx (env.set i (some (.own (vs.set j v)))) st
      | none => .bad
    | _ => .bad
  | _ => .bad
theorem ms_store {i : Nat} {x : Str} {e ix : Expr} {d k : DP} {p spos pos : Pos} (hx : PE X (.Name x p) (tVar i)) (hk : MP Z X W ix k) (h : MV Z X W e d)
    (hs : swapsWithSole [.Subscript (.Name x p) ix spos] e pos.line X.env = pure false := by rfl) (hw : swappedStores [.Subscript (.Name x p) ix spos] e X.env = pure none := by rfl)
    (hae : (assignEach [.Subscript (.Name x p) ix spos] X.env).map (·.2) = [assign (.Subscript (.Name x p) ix spos) X.env] := by rfl)
    (ha : ∀ v, assign (.Subscript (.Name x p) ix spos) X.env v = (do
      let ov ← holding [v] (eval (.Name x p) X.env)
      let iv ← holding [v, ov] (eval ix X.env)
      standAt spos
      holding [v, ov, iv] (setItem ov iv v)
      release [v, ov, iv] []) := by intro _; rfl) : MS Z X W (.Assign [.Subscript (.Name x p) ix spos] e pos) (dStore i k d) := by
  obtain ⟨t, h1, h2⟩ := h
  obtain ⟨tk, h3, h4⟩ := hk
  refine ⟨_, ps_asg h1 (pg_sub hx h3 set_list ha) hs hw hae, fun S σ H env st D r p => h2 S σ H env st _ r ?_⟩
  refine PostS.of_any (RP := rpV X.K Z H) (f := fun v st => match env[i]? with
    | some (some (.own vs)) => dExpS (k env st) env fun w st => match w with
      | .int n => match ixN vs.length n with
        | some j => .nx (env.set i (some (.own (vs.set j v)))) st
        | none => .bad
      | _ => .bad
    | _ => .bad) r p fun v st' y S' H' e1 r1 q p' => ?_
  cases ei : env[i]? with
  | none => simp only [ei, PostS] at p'
  | some o =>
    cases o with
    | none => simp only [ei, PostS] at p'
    | some s =>
      cases s with
      | own vs =>
        simp only [ei] at p'
        obtain ⟨x0, k1, k2⟩ := r1.sl i _ ei
        have p2 := p'.later (e1.toS env σ)
        refine ⟨x0, k1, h4 S' σ H' env st' _ r1 ?_⟩
        refine PostS.of_any (RP := rpP X.K Z H') (f := fun w st => match w with
          | .int n => match ixN vs.length n with
            | some j => .nx (env.set i (some (.own (vs.set j v)))) st
            | none => .bad
          | _ => .bad) r1 p2 fun w st2 z S2 H2 e2 r2 q2 p3 => ?_
        cases w with
        | int n =>
          simp only at p3
          cases ej : ixN vs.length n with
          | none => simp only [ej, PostS] at p3
          | some j =>
            simp only [ej] at p3
            obtain ⟨x2, k3, k4⟩ := r2.sl i _ ei
            rw [k1] at k3
            cases k3
            obtain ⟨l, xs, rfl, hl, g, rl⟩ := k4
            have q' := Rep.mono e2.mon _ _ q
            obtain ⟨r3, e3⟩ := r2.write (o := .lst (xs.set j y)) (s' := .own (vs.set j v)) ei rfl k1 ⟨_, hl, trivial⟩ g rfl ⟨l, _, rfl, upd_same, g, repL_set j rl q'⟩
            refine ⟨l, xs, n, j, rfl, by simpa only [PRep, Rep] using q2.p, hl, by rw [← repL_length rl]; exact ej, ?_⟩
            exact p3 S2 σ _ ((e2.toS env σ).trans e3) r3
        | _ => exact False.elim p3
      | _ => simp only [ei, PostS] at p'
/-! ### n += e, n -= e, whole numbers -/
@[simp] def dAug (i : Nat) (f : Int → Int → Int) (d : DP) : DS := fun env st => match env[i]? with
  | some (some (.val (.int n))) => dExpS (d env st) env fun w st => match w with
    | .int m => .nx (env.set i (some (.val (.int (f n m))))) st
    | _ => .bad
  | _ => .bad
theorem ms_aug {i : Nat} {x : Str} {e : Expr} {d : DP} {op : Operator} {f : Int → Int → Int} {pos pos' : Pos} (hN : X.N.Nodup) (hi : X.N[i]? = some x) (hx : Loc X.env.scope x) (h : MP Z X W e d) (ho : PIp X op (ipI f))
    (hf : X.fn x = true ∨ X.env.scope.names.lookup x = some .local := by first | exact .inl rfl | exact .inr rfl | assumption) : MS Z X W (.AugAssign (.Name x pos') op e pos) (dAug i f d) := by
  obtain ⟨t, h1, h2⟩ := h
  refine ⟨_, ps_aug hN hi hx h1 ho hf, fun S σ H env st D r p => ?_⟩
  unfold dAug at p
  split at p
  · rename_i n ei
    obtain ⟨x0, k1, k2⟩ := r.sl i _ ei
    refine ⟨x0, k1, h2 S σ H env st _ r ?_⟩
    refine PostS.of_any (RP := rpP X.K Z H) (f := fun w st => match w with
      | .int m => .nx (env.set i (some (.val (.int (f n m))))) st
      | _ => .bad) r p fun w st2 z S2 H2 e2 r2 q2 p3 => ?_
    cases w with
    | int m =>
      have hi2 : i < env.length := (List.getElem?_eq_some_iff.mp ei).1
      refine ⟨n, m, by simpa only [SlR, Rep] using k2, by simpa only [PRep, Rep] using q2.p, ?_⟩
      exact p3 S2 _ H2 ((e2.toS env σ).set (s := .val (.int (f n m))) (fun a => by cases a) fun a => by cases a) (r2.set hi2 (by simp only [SlR, Rep]) fun a => by cases a)
    | _ => exact False.elim p3
  · exact p.elim
/-! ### x.clear() -/
@[simp] def dClear (i : Nat) : DS := fun env st => match env[i]? with
  | some (some (.own _)) => .nx (env.set i (some (.own []))) st
  | _ => .bad
theorem ms_clear {i : Nat} {x : Str} {p apos cpos pos : Pos} (hx : PE X (.Name x p) (tVar i))
    (hs : swapsWith (.Call (.Attribute (.Name x p) "clear" apos) [] [] cpos) none pos.line X.env = pure false := by rfl)
    (hbase : attributeBase (.Name x p) "clear" X.env (eval (.Name x p) X.env) = eval (.Name x p) X.env := by rfl) (hline : (apos.endLine == cpos.line) = true := by rfl) :
    MS Z X W (.Expr (.Call (.Attribute (.Name x p) "clear" apos) [] [] cpos) pos) (dClear i) := by
  refine ⟨_, ps_expr (pe_bm0 PySem.F.plainAttrs_list PySem.F.slot_list_clear PySem.F.type_list_clear mt_clear hx hbase hline) hs, fun S σ H env st D r p => ?_⟩
  unfold dClear at p
  split at p
  · rename_i vs ei
    obtain ⟨x, k1, k2⟩ := r.sl i _ ei
    obtain ⟨l, xs, rfl, hl, g, rl⟩ := id k2
    obtain ⟨r2, e2⟩ := r.write (o := .lst []) (s' := .own []) ei rfl k1 ⟨_, hl, trivial⟩ g rfl ⟨l, _, rfl, upd_same, g, repL_nil⟩
    exact ⟨_, k1, tyV_lst hl, l, xs, rfl, rfl, hl, p S σ _ e2 r2⟩
  · exact p.elim
end
end Eg

/-! Evaluation of denotations by simp. -/
namespace Eg
open PySem L2
section
variable {α β : Type}
@[simp] theorem Out.bind_ok (a : α) (st : Store) (f : α → Store → Out β) : (Out.ok a st).bind f = f a st := rfl
@[simp] theorem Out.bind_exc (c fs st) (f : α → Store → Out β) : (Out.exc c fs st : Out α).bind f = .exc c fs st := rfl
@[simp] theorem Out.bind_bad (f : α → Store → Out β) : (Out.bad : Out α).bind f = .bad := rfl
@[simp] theorem Out.calm_ok (a : α) (st : Store) : (Out.ok a st).calm = .ok a st := rfl
@[simp] theorem thn_nx (env st) (f : Evn → Store → OutS) : (OutS.nx env st).thn f = f env st := rfl
@[simp] theorem thn_rt (r st) (f : Evn → Store → OutS) : (OutS.rt r st).thn f = .rt r st := rfl
@[simp] theorem thn_bk (env st) (f : Evn → Store → OutS) : (OutS.bk env st).thn f = .bk env st := rfl
@[simp] theorem thn_ct (env st) (f : Evn → Store → OutS) : (OutS.ct env st).thn f = .ct env st := rfl
@[simp] theorem thn_exc (c fs env st) (f : Evn → Store → OutS) : (OutS.exc c fs env st).thn f = .exc c fs env st := rfl
@[simp] theorem dExpS_ok (a : α) (st : Store) (env : Evn) (f : α → Store → OutS) : dExpS (.ok a st) env f = f a st := rfl
@[simp] theorem dExpS_exc (c fs st) (env : Evn) (f : α → Store → OutS) : dExpS (.exc c fs st) env f = .exc c fs env st := rfl
@[simp] theorem thn_bad (f : Evn → Store → OutS) : OutS.bad.thn f = .bad := rfl
@[simp] theorem dExpS_bad (env : Evn) (f : α → Store → OutS) : dExpS .bad env f = .bad := rfl
@[simp] theorem fromO_some (a : α) (st : Store) : fromO (some a) st = .ok a st := rfl
@[simp] theorem fromO_none (st : Store) : (fromO (none : Option α) st) = .bad := rfl
@[simp] theorem thn_ite {p : Prop} [Decidable p] (a b : OutS) (f : Evn → Store → OutS) : (if p then a else b).thn f = if p then a.thn f else b.thn f := by split <;> rfl
@[simp] theorem bind_ite {p : Prop} [Decidable p] (a b : Out α) (f : α → Store → Out β) : (if p then a else b).bind f = if p then a.bind f else b.bind f := by split <;> rfl
@[simp] theorem dExpS_ite {p : Prop} [Decidable p] (a b : Out α) (env : Evn) (f : α → Store → OutS) : dExpS (if p then a else b) env f = if p then dExpS a env f else dExpS b env f := by split <;> rfl
@[simp] theorem fromO_ite {p : Prop} [Decidable p] (a b : Option α) (st : Store) : fromO (if p then a else b) st = if p then fromO a st else fromO b st := by split <;> rfl
end
/-- None or a whole number -/
def oi : Option Int → Val
  | none => .non
  | some i => .int i
@[simp] theorem oi_none : oi none = .non := rfl
@[simp] theorem oi_some (i : Int) : oi (some i) = .int i := rfl
@[simp] theorem isB_int_int (i : Int) : isB "int" (.int i) = some true := by show kitB "int" "int" = _; decide +kernel
@[simp] theorem isB_bool_int (i : Int) : isB "bool" (.int i) = some false := by show kitB "int" "bool" = _; decide +kernel
@[simp] theorem isB_bool_bl (b : Bool) : isB "bool" (.bl b) = some true := by show kitB "bool" "bool" = _; decide +kernel
@[simp] theorem isB_int_bl (b : Bool) : isB "int" (.bl b) = some true := by show kitB "bool" "int" = _; decide +kernel
@[simp] theorem isB_int_non : isB "int" .non = some false := by show kitB "NoneType" "int" = _; decide +kernel
@[simp] theorem isB_bool_non : isB "bool" .non = some false := by show kitB "NoneType" "bool" = _; decide +kernel
@[simp] theorem isB_list_lst (v) : isB "list" (.lst v) = some true := by show kitB "list" "list" = _; decide +kernel
@[simp] theorem isB_tuple_tup (v) : isB "tuple" (.tup v) = some true := by show kitB "tuple" "tuple" = _; decide +kernel
@[simp] theorem isB_tuple_lst (v) : isB "tuple" (.lst v) = some false := by show kitB "list" "tuple" = _; decide +kernel
@[simp] theorem isB_list_tup (v) : isB "list" (.tup v) = some false := by show kitB "tuple" "list" = _; decide +kernel
@[simp] theorem isB_tuple_non : isB "tuple" .non = some false := by show kitB "NoneType" "tuple" = _; decide +kernel
@[simp] theorem isB_list_non : isB "list" .non = some false := by show kitB "NoneType" "list" = _; decide +kernel
@[simp] theorem isB_tuple_int (i) : isB "tuple" (.int i) = some false := by show kitB "int" "tuple" = _; decide +kernel
@[simp] theorem isB_list_int (i) : isB "list" (.int i) = some false := by show kitB "int" "list" = _; decide +kernel
@[simp] theorem gEq_int (i j : Int) : gEq (.int i) (.int j) = some (.val (.bl (decide (i = j)))) := rfl
@[simp] theorem gNe_int (i j : Int) : gNe (.int i) (.int j) = some (.val (.bl (!decide (i = j)))) := rfl
@[simp] theorem gEq_bl (i j : Bool) : gEq (.bl i) (.bl j) = some (.val (.bl (i == j))) := rfl
@[simp] theorem gNe_bl (i j : Bool) : gNe (.bl i) (.bl j) = some (.val (.bl (!(i == j)))) := rfl
/-- | i | < 2 ^ n -/
def Bd (n : Nat) (i : Int) : Prop := i.natAbs < 2 ^ n
theorem Bd.mono {m n : Nat} {i : Int} (h : Bd m i) (l : m ≤ n) : Bd n i := Nat.lt_of_lt_of_le h (Nat.pow_le_pow_right (by decide) l)
theorem Bd.div {n : Nat} {i j : Int} (h : Bd n i) (hj : 0 < j) : Bd n (i / j) := by
  refine Nat.lt_of_le_of_lt ?_ h
  have h1 := Int.natAbs_ediv_le_natAbs i j
  exact h1
theorem Bd.mul {m n : Nat} {i j : Int} (h : Bd m i) (h' : Bd n j) : Bd (m + n) (i * j) := by
  unfold Bd
  rw [Int.natAbs_mul, Nat.pow_add]
  exact Nat.mul_lt_mul'' h h'
theorem Bd.bits {m n : Nat} {i j : Int} (h : Bd m i) (h' : Bd n j) (h0 : 0 < m) (h1 : 0 < n) (hl : m + n ≤ 100000000) : iBits i j = true := iBits_of h h' h0 h1 hl
theorem bd_of_bits {z : Int} (h : Builtin.Int.intBits z ≤ 1048576) : Bd 1048576 z := by
  unfold Builtin.Int.intBits at h
  unfold Bd
  by_cases e : z = 0
  · rw [e]; exact Nat.two_pow_pos _
  · have h2 : (z == 0) = false := by simpa using e
    rw [h2] at h
    have h3 : z.natAbs.log2 + 1 ≤ 1048576 := h
    exact Nat.lt_of_lt_of_le (Nat.lt_log2_self) (Nat.pow_le_pow_right (by decide) h3)
/-- the k-th number of a script, 0 behind its end -/
def cellAt (ns : List Int) (k : Nat) : Int := ns.getD k 0
theorem bd_cell {ns : List Int} (hb : ∀ z ∈ ns, Builtin.Int.intBits z ≤ 1048576) (k : Nat) : Bd 1048576 (cellAt ns k) := by
  unfold cellAt
  rw [List.getD_eq_getElem?_getD]
  cases e : ns[k]? with
  | none => exact Nat.two_pow_pos _
  | some z => exact bd_of_bits (hb z (List.mem_of_getElem? e))
theorem atI_map {α β : Type} (f : α → β) (l : List α) (k : Int) : atI (l.map f) k = (atI l k).map f := by
  unfold atI
  rw [List.length_map]
  cases ixN l.length k with
  | none => rfl
  | some j => simp
theorem atI_ofNat {α : Type} (l : List α) (k : Nat) : atI l (k : Int) = l[k]? := by
  cases e : l[k]? with
  | some v => exact atI_nat e
  | none =>
    have h : l.length ≤ k := List.getElem?_eq_none_iff.mp e
    unfold atI ixN
    rw [if_pos (by omega), if_neg (by omega)]
    rfl
@[simp] theorem atI_zero {α : Type} (a : α) (l : List α) : atI (a :: l) 0 = some a := atI_ofNat (a :: l) 0
@[simp] theorem atI_one {α : Type} (a b : α) (l : List α) : atI (a :: b :: l) 1 = some b := atI_ofNat (a :: b :: l) 1
@[simp] theorem atI_two {α : Type} (a b c : α) (l : List α) : atI (a :: b :: c :: l) 2 = some c := atI_ofNat (a :: b :: c :: l) 2

/-! ### bounds found by instances -/
class BdC (i : Int) (n : outParam Nat) : Prop where
  bd : i.natAbs < 2 ^ n
instance bdLit (n : Nat) : BdC (no_index (@OfNat.ofNat Int n (@instOfNat n))) (n.log2 + 1) := ⟨by
  show (Int.ofNat n).natAbs < _
  simp only [Int.ofNat_eq_natCast, Int.natAbs_natCast]
  exact Nat.lt_log2_self⟩
theorem pow_le {a b : Nat} (h : a ≤ b) : 2 ^ a ≤ 2 ^ b := Nat.pow_le_pow_right (by decide) h
instance bdMul {i j : Int} {m n : Nat} [h : BdC i m] [h' : BdC j n] : BdC (i * j) (m + n) := ⟨by
  rw [Int.natAbs_mul, Nat.pow_add]
  exact Nat.mul_lt_mul'' h.bd h'.bd⟩
instance bdDiv {i j : Int} {m : Nat} [h : BdC i m] : BdC (i / j) m := ⟨Nat.lt_of_le_of_lt (Int.natAbs_ediv_le_natAbs i j) h.bd⟩
instance bdNeg {i : Int} {m : Nat} [h : BdC i m] : BdC (-i) m := ⟨by rw [Int.natAbs_neg]; exact h.bd⟩
instance bdAdd {i j : Int} {m n : Nat} [h : BdC i m] [h' : BdC j n] : BdC (i + j) (max m n + 1) := ⟨by
  have h1 := Nat.lt_of_lt_of_le h.bd (pow_le (Nat.le_max_left m n))
  have h2 := Nat.lt_of_lt_of_le h'.bd (pow_le (Nat.le_max_right m n))
  rw [Nat.pow_succ]
  omega⟩
instance bdSub {i j : Int} {m n : Nat} [h : BdC i m] [h' : BdC j n] : BdC (i - j) (max m n + 1) := ⟨by
  have h1 := Nat.lt_of_lt_of_le h.bd (pow_le (Nat.le_max_left m n))
  have h2 := Nat.lt_of_lt_of_le h'.bd (pow_le (Nat.le_max_right m n))
  rw [Nat.pow_succ]
  omega⟩
instance bdMod {i j : Int} {m n : Nat} [h : BdC i m] [h' : BdC j n] : BdC (i % j) (max m n) := ⟨by
  have h1 := Nat.lt_of_lt_of_le h.bd (pow_le (Nat.le_max_left m n))
  have h2 := Nat.lt_of_lt_of_le h'.bd (pow_le (Nat.le_max_right m n))
  by_cases e : j = 0
  · rw [e, Int.emod_zero]; exact h1
  · have a := Int.emod_nonneg i e
    have b := Int.emod_lt i e
    omega⟩
instance bdIte {p : Prop} [Decidable p] {i j : Int} {m n : Nat} [h : BdC i m] [h' : BdC j n] : BdC (if p then i else j) (max m n) := ⟨by
  have h1 := Nat.lt_of_lt_of_le h.bd (pow_le (Nat.le_max_left m n))
  have h2 := Nat.lt_of_lt_of_le h'.bd (pow_le (Nat.le_max_right m n))
  split <;> assumption⟩
theorem BdC.of {i : Int} {m : Nat} (h : Bd m i) : BdC i m := ⟨h⟩
@[simp] theorem iBits_inst {i j : Int} {m n : Nat} [h : BdC i m] [h' : BdC j n] (hl : m + n + 2 ≤ 100000000) : iBits i j = true := iBits_of (a := m + 1) (b := n + 1) (Nat.lt_of_lt_of_le h.bd (pow_le (Nat.le_succ m))) (Nat.lt_of_lt_of_le h'.bd (pow_le (Nat.le_succ n))) (Nat.succ_pos _) (Nat.succ_pos _) (by omega)
@[simp] theorem gMul_int (i j : Int) : gMul (.int i) (.int j) = if iBits i j then some (.val (.int (i * j))) else none := rfl
@[simp] theorem gDiv_int (i j : Int) : gDiv (.int i) (.int j) = if divOk j then some (.val (.int (i / j))) else none := rfl
@[simp] theorem gMod_int (i j : Int) : gMod (.int i) (.int j) = if 0 < j then some (.val (.int (i % j))) else none := rfl
@[simp] theorem gPow_int (i j : Int) : gPow (.int i) (.int j) = if powOk i j then some (.val (.int (i ^ j.toNat))) else none := rfl
@[simp] theorem divOk_lit (n : Nat) : divOk (no_index (@OfNat.ofNat Int n (@instOfNat n))) = decide (0 < n ∧ n.log2 < 9000) := by
  unfold divOk
  congr 1
  show ((0 : Int) < ((n : Nat) : Int) ∧ ((n : Nat) : Int).natAbs.log2 < 9000) = _
  simp
@[simp] theorem powOk_ten (n : Nat) : powOk 10 (no_index (@OfNat.ofNat Int n (@instOfNat n))) = decide (4 * n ≤ 134217728) := by
  unfold powOk
  have e : (Builtin.Int.intBits 10 : Int) = 4 := by decide +kernel
  rw [e]
  congr 1
  show ((0 : Int) ≤ ((n : Nat) : Int) ∧ (4 : Int) * ((n : Nat) : Int) ≤ 2 ^ 27) = _
  simp only [eq_iff_iff]
  omega
@[simp] theorem powOk_60_8 : powOk 1000000000000000000000000000000000000000000000000000000000000 8 = true := by decide +kernel
@[simp] theorem powOk_60_6 : powOk 1000000000000000000000000000000000000000000000000000000000000 6 = true := by decide +kernel
@[simp] theorem ex_oi_non : (∃ x, Val.non = oi x) ↔ True := ⟨fun _ => trivial, fun _ => ⟨none, rfl⟩⟩
@[simp] theorem ex_oi_int (p : Int) : (∃ x, Val.int p = oi x) ↔ True := ⟨fun _ => trivial, fun _ => ⟨some p, rfl⟩⟩
/-! slices -/
theorem sIx_none (n d : Nat) : HT.sIx n d none = d := rfl
theorem cutW_map {α : Type} (f : α → Val) (l : List α) (lo hi : Option Int) : cutW (l.map f) lo hi = ((l.drop (HT.sIx l.length 0 lo)).take (HT.sIx l.length l.length hi - HT.sIx l.length 0 lo)).map f := by
  unfold cutW
  rw [List.length_map, List.map_take, List.map_drop]
theorem cutW_from (l : List Val) (k : Nat) : cutW l (some (k : Int)) none = l.drop k := by
  unfold cutW
  rw [sIx_none, HT.sIx_nat]
  by_cases h : k ≤ l.length
  · rw [Nat.min_eq_left h]
    exact List.take_of_length_le (by rw [List.length_drop]; omega)
  · rw [Nat.min_eq_right (by omega), List.drop_of_length_le (by omega : l.length ≤ l.length), List.drop_of_length_le (by omega), List.take_nil]
@[simp] theorem gNe_nil_nil : gNe (.lst []) (.lst []) = some (.val (.bl false)) := by simp [gNe, dat, eqv, eqvs]
@[simp] theorem gEq_nil_nil : gEq (.lst []) (.lst []) = some (.val (.bl true)) := by simp [gEq, dat, eqv, eqvs]
end Eg

namespace Eg
open PySem L2
/-! ### in, not in: flat things in a list or tuple -/
def flat : Val → Bool
  | .non => true | .bl _ => true | .int _ => true | .str _ => true | _ => false
def inW (v : Val) (vs : List Val) : Bool := vs.any fun y => eqv y v
@[simp] def gIn (v w : Val) : Option R := match itemsOf w with
  | some vs => if flat v = true ∧ vs.all flat = true then some (.val (.bl (inW v vs))) else none
  | none => none
@[simp] def gNotIn (v w : Val) : Option R := match itemsOf w with
  | some vs => if flat v = true ∧ vs.all flat = true then some (.val (.bl (!inW v vs))) else none
  | none => none
section
variable {K : PySem.W.Frag} {Z : Stc} {S : Gh} {H : Hp}
theorem flat_rep {v : Val} {x : V} (f : flat v = true) (h : Rep K Z S v x) : flatV x = true ∧ ∀ w y, flat w = true → Rep K Z S w y → eqV y x = eqv w v := by
  cases v with
  | non =>
    rw [show x = V.non by simpa only [Rep] using h]
    refine ⟨rfl, fun w y fw hw => ?_⟩
    cases w <;> first | (cases fw; done) | (simp only [Rep] at hw; rw [hw]; rfl)
  | bl b =>
    rw [show x = V.bl b by simpa only [Rep] using h]
    refine ⟨rfl, fun w y fw hw => ?_⟩
    cases w <;> first | (cases fw; done) | (simp only [Rep] at hw; rw [hw]; first | rfl | (simp only [eqV, eqv]))
  | int b =>
    rw [show x = V.int b by simpa only [Rep] using h]
    refine ⟨rfl, fun w y fw hw => ?_⟩
    cases w <;> first | (cases fw; done) | (simp only [Rep] at hw; rw [hw]; first | rfl | (simp only [eqV, eqv, Bool.beq_eq_decide_eq]))
  | str b =>
    rw [show x = V.str b by simpa only [Rep] using h]
    refine ⟨rfl, fun w y fw hw => ?_⟩
    cases w <;> first | (cases fw; done) | (simp only [Rep] at hw; rw [hw]; first | rfl | (simp only [eqV, eqv, Bool.beq_eq_decide_eq]))
  | _ => cases f
theorem inW_rep {v : Val} {x : V} (f : flat v = true) (h : Rep K Z S v x) : ∀ {vs : List Val} {xs : List V}, vs.all flat = true → RepL K Z S vs xs → xs.all flatV = true ∧ inV x xs = inW v vs
  | [], xs, _, r => by
    simp only [RepL] at r
    rw [r]
    exact ⟨rfl, rfl⟩
  | w :: vs, xs, fs, r => by
    obtain ⟨y, ys, rfl, r1, r2⟩ := repL_uncons r
    have fs' : flat w = true ∧ vs.all flat = true := by simpa using fs
    obtain ⟨a, b⟩ := inW_rep f h fs'.2 r2
    have k := (flat_rep f h).2 w y fs'.1 r1
    refine ⟨?_, ?_⟩
    · simp [(flat_rep fs'.1 r1).1, a]
    · show (eqV y x || inV x ys) = (eqv w v || inW v vs)
      rw [k, b]
theorem flat_peek {v : Val} {x : V} (f : flat v = true) (h : PRep K Z S H v x) : Rep K Z S v x := by
  cases v <;> first | exact h | (cases f; done)
end
section
variable {Z : Stc} {X : Cx} {W : WX}
theorem os_in : OpS Z X (compareOp .In) gIn := by
  intro pins s σ H x y v u Q I rx ry ⟨S, a, b, r, w, pa, pb, eg, q⟩
  unfold gIn at eg
  split at eg
  · rename_i vs ei
    split at eg
    · rename_i hf
      cases eg
      obtain ⟨p, xs, rfl, hs, rl⟩ := items_rep w pb ei
      have h1 := flat_peek hf.1 pa
      obtain ⟨k1, k2⟩ := inW_rep hf.1 h1 hf.2 rl
      refine op_in_seq pins s σ H x _ v u Q I rx ry ⟨p, xs, rfl, hs, (flat_rep hf.1 h1).1, k1, ?_⟩
      rw [if_neg Bool.false_ne_true, k2]
      exact q_val w q (by simp only [Rep])
    · cases eg
  · cases eg
theorem os_notIn : OpS Z X (compareOp .NotIn) gNotIn := by
  intro pins s σ H x y v u Q I rx ry ⟨S, a, b, r, w, pa, pb, eg, q⟩
  unfold gNotIn at eg
  split at eg
  · rename_i vs ei
    split at eg
    · rename_i hf
      cases eg
      obtain ⟨p, xs, rfl, hs, rl⟩ := items_rep w pb ei
      have h1 := flat_peek hf.1 pa
      obtain ⟨k1, k2⟩ := inW_rep hf.1 h1 hf.2 rl
      refine op_notIn_seq pins s σ H x _ v u Q I rx ry ⟨p, xs, rfl, hs, (flat_rep hf.1 h1).1, k1, ?_⟩
      rw [if_pos rfl, k2]
      exact q_val w q (by simp only [Rep])
    · cases eg
  · cases eg
/-! ### all, any -/
def blsOf : List Val → Option (List Bool)
  | [] => some []
  | .bl b :: r => (blsOf r).map (b :: ·)
  | _ => none
@[simp] theorem blsOf_nil : blsOf [] = some [] := rfl
@[simp] theorem blsOf_cons (b : Bool) (r : List Val) : blsOf (.bl b :: r) = (blsOf r).map (b :: ·) := rfl
theorem blsOf_map : ∀ bs : List Bool, blsOf (bs.map Val.bl) = some bs
  | [] => rfl
  | b :: bs => by
    show (blsOf (bs.map Val.bl)).map (b :: ·) = _
    rw [blsOf_map bs]
    rfl
theorem bls_rep {K : PySem.W.Frag} {S : Gh} : ∀ {vs : List Val} {xs : List V} {bs}, RepL K Z S vs xs → blsOf vs = some bs → xs = bs.map V.bl
  | [], xs, ns, h, e => by
    simp only [RepL] at h
    cases e
    exact h
  | v :: vs, xs, ns, h, e => by
    obtain ⟨x, r, rfl, h1, t⟩ := repL_uncons h
    cases v with
    | bl b =>
      have e' : (blsOf vs).map (b :: ·) = some ns := e
      cases q : blsOf vs with
      | none => rw [q] at e'; cases e'
      | some ms =>
        rw [q] at e'
        cases e'
        rw [show x = V.bl b by simpa only [Rep] using h1, bls_rep t q]
        rfl
    | _ => cases e
@[simp] def gAll : List Val → Option R
  | [v] => match lstOf v with
    | some vs => match blsOf vs with
      | some bs => some (.val (.bl (bs.all id)))
      | none => none
    | none => none
  | _ => none
@[simp] def gAny : List Val → Option R
  | [v] => match lstOf v with
    | some vs => match blsOf vs with
      | some bs => some (.val (.bl (bs.any id)))
      | none => none
    | none => none
  | _ => none
theorem cs_all (hc : X.calm = true) : CallR X (.builtin "all") (rC X.K Z gAll) := by
  intro pins s σ H xs us Q I rs ⟨S, vs, r, w, pr, eg, q⟩
  unfold gAll at eg
  split at eg
  · split at eg
    · rename_i ws e
      split at eg
      · rename_i bs e2
        cases eg
        obtain ⟨x, rfl, p1⟩ := prep1 pr
        obtain ⟨a, ys, rfl, hs, r1⟩ := lst_rep w p1 e
        have ey := bls_rep r1 e2
        subst ey
        exact cr_all hc pins s σ H _ us Q I rs ⟨a, bs, rfl, hs, q_val w q (by simp only [Rep])⟩
      · cases eg
    · cases eg
  · cases eg
theorem cs_any (hc : X.calm = true) : CallR X (.builtin "any") (rC X.K Z gAny) := by
  intro pins s σ H xs us Q I rs ⟨S, vs, r, w, pr, eg, q⟩
  unfold gAny at eg
  split at eg
  · split at eg
    · rename_i ws e
      split at eg
      · rename_i bs e2
        cases eg
        obtain ⟨x, rfl, p1⟩ := prep1 pr
        obtain ⟨a, ys, rfl, hs, r1⟩ := lst_rep w p1 e
        have ey := bls_rep r1 e2
        subst ey
        exact cr_any hc pins s σ H _ us Q I rs ⟨a, bs, rfl, hs, q_val w q (by simp only [Rep])⟩
      · cases eg
    · cases eg
  · cases eg
/-! ### range(a, b, c) -/
def rgC (lo c : Int) : Nat → List Val
  | 0 => []
  | n + 1 => .int lo :: rgC (lo + c) c n
theorem rgC_length : ∀ (n : Nat) (lo c : Int), (rgC lo c n).length = n
  | 0, _, _ => rfl
  | n + 1, lo, c => by
    show (rgC (lo + c) c n).length + 1 = n + 1
    rw [rgC_length n]
theorem rgC_get : ∀ (n : Nat) (lo c : Int) (i : Nat) v, (rgC lo c n)[i]? = some v → v = .int (lo + (i : Nat) * c) ∧ i < n
  | 0, _, _, _, _, h => by simp [rgC] at h
  | n + 1, lo, c, 0, v, h => by
    simp [rgC] at h
    subst h
    exact ⟨by simp, by omega⟩
  | n + 1, lo, c, i + 1, v, h => by
    have h' : (rgC (lo + c) c n)[i]? = some v := by simpa [rgC] using h
    obtain ⟨e, l⟩ := rgC_get n (lo + c) c i v h'
    refine ⟨?_, by omega⟩
    rw [e]
    congr 1
    rw [Int.natCast_add, Int.add_mul, Int.add_assoc]
    congr 1
    simp
    omega
theorem gives_rangeC {K : PySem.W.Frag} {S : Gh} {H : Hp} {env σ} (lo c : Int) (n : Nat) : Gives K Z S H env σ (Itc lo c n) (rgC lo c n) := by
  intro i S2 H2 f m w2
  rw [rgC_length]
  refine ⟨fun h => h, fun v hv => ?_⟩
  obtain ⟨rfl, h⟩ := rgC_get n lo c i v hv
  refine ⟨h, fun x H3 hy => ?_⟩
  obtain ⟨rfl, rfl⟩ := hy
  exact ⟨S2, ExtP.refl w2, by simp only [Rep]⟩
noncomputable def rgOk3 (i j c : Int) : Bool := cB (c ≠ 0 ∧ c.natAbs < 1073741824 ∧ Builtin.Range.small i j c = true ∧ 0 ≤ Builtin.Range.rangeSize i j c)
@[simp] noncomputable def gRng3 : List Val → Option (List Val)
  | [.int i, .int j, .int c] => if rgOk3 i j c then some (rgC i c (Builtin.Range.rangeSize i j c).toNat) else none
  | _ => none
@[simp] noncomputable def dRng3 (ds : List DP) : DI := fun env st => (dVals ds env st).bind fun vs st => fromO (gRng3 vs) st
theorem prep3 {K : PySem.W.Frag} {S : Gh} {H : Hp} {v w u : Val} {xs : List V} (h : PRepL K Z S H [v, w, u] xs) : ∃ x y z, xs = [x, y, z] ∧ PRep K Z S H v x ∧ PRep K Z S H w y ∧ PRep K Z S H u z := by
  simp only [PRepL] at h
  obtain ⟨x, r, rfl, h1, y, r2, rfl, h2, z, r3, rfl, h3, rfl⟩ := h
  exact ⟨x, y, z, rfl, h1, h2, h3⟩
theorem mi_range3 {tg a b c : Expr} {da db dc : DP} {p pos : Pos} (h : MPs Z X W [a, b, c] (dVals [da, db, dc])) (hm : X.mg "range" = none) (hg : Gl X "range" := by rfl) (hs : starEach [a, b, c] X.env = (false, eval a X.env) :: starEach [b, c] X.env := by rfl) (hpl : (backTo pos (starEach [b, c] X.env)).any (·.1) = false := by rfl) : MI Z X W tg (.Call (.Name "range" p) [a, b, c] [] pos) (dRng3 [da, db, dc]) := by
  obtain ⟨t, h1, h2⟩ := h
  refine ⟨_, pi_range3 hg hm h1 hs hpl, fun S σ H env st R r po => h2 S σ H env st _ r ?_⟩
  simp only [dRng3] at po
  cases ed : dVals [da, db, dc] env st with
  | bad => simp only [ed, Out.bind, Post] at po
  | exc c fs st1 =>
    simp only [ed, Out.bind, Post] at po ⊢
    exact po
  | ok vs st1 =>
    simp only [ed, Out.bind] at po
    intro xs S1 H1 e1 w1 s1 q
    have hl := dVals_length ed
    match vs, hl with
    | [v, u, t], _ =>
      obtain ⟨x, y, z, rfl, pv, pu, pt⟩ := prep3 q.p
      cases v with
      | int i =>
        cases u with
        | int j =>
          cases t with
          | int c =>
            simp only [gRng3] at po
            split at po
            · rename_i hj
              have hj' := of_cB hj
              refine ⟨i, j, c, (Builtin.Range.rangeSize i j c).toNat, by rw [show x = V.int i by simpa only [PRep, Rep] using pv, show y = V.int j by simpa only [PRep, Rep] using pu, show z = V.int c by simpa only [PRep, Rep] using pt], ⟨hj'.1, hj'.2.1, hj'.2.2.1, ?_⟩, po _ S1 H1 e1 w1 s1 (gives_rangeC i c _)⟩
              have := hj'.2.2.2
              omega
            · exact False.elim po
          | _ => exact False.elim po
        | _ => exact False.elim po
      | _ => exact False.elim po
end
/-! ### loops that go through -/
theorem forGo_inv {T : Tgt} {b : DS} {st : Store} (I : Evn → Prop) : ∀ (vs : List Val), (∀ v ∈ vs, ∀ env, I env → ∃ env1 env2, setT T (.val v) env = some env1 ∧ (b env1 st = .nx env2 st ∨ b env1 st = .ct env2 st) ∧ I env2) → ∀ env, I env → ∃ env', dForGo T b vs env st = .nx env' st ∧ I env'
  | [], _, env, h => ⟨env, rfl, h⟩
  | v :: vs, hv, env, h => by
    obtain ⟨env1, env2, h1, h2, h3⟩ := hv v List.mem_cons_self env h
    obtain ⟨env', h4, h5⟩ := forGo_inv I vs (fun v m => hv v (List.mem_cons_of_mem _ m)) env2 h3
    refine ⟨env', ?_, h5⟩
    simp only [dForGo, h1]
    rcases h2 with h2 | h2 <;> rw [h2] <;> exact h4
/-- .. what holds may hang on the items gone through -/
theorem forGo_pre {T : Tgt} {b : DS} {st : Store} (I : List Val → Evn → Prop) : ∀ (vs pre : List Val), (∀ pre v post env, pre ++ v :: post = (pre ++ v :: post) → v ∈ vs → I pre env → ∃ env1 env2, setT T (.val v) env = some env1 ∧ (b env1 st = .nx env2 st ∨ b env1 st = .ct env2 st) ∧ I (pre ++ [v]) env2) → ∀ env, I pre env → ∃ env', dForGo T b vs env st = .nx env' st ∧ I (pre ++ vs) env'
  | [], pre, _, env, h => ⟨env, rfl, by rw [List.append_nil]; exact h⟩
  | v :: vs, pre, hv, env, h => by
    obtain ⟨env1, env2, h1, h2, h3⟩ := hv pre v [] env rfl List.mem_cons_self h
    obtain ⟨env', h4, h5⟩ := forGo_pre I vs (pre ++ [v]) (fun pre v post env e m => hv pre v post env e (List.mem_cons_of_mem _ m)) env2 h3
    refine ⟨env', ?_, by rw [List.append_assoc] at h5; exact h5⟩
    simp only [dForGo, h1]
    rcases h2 with h2 | h2 <;> rw [h2] <;> exact h4

/-! ### None or a number: tests -/
@[simp] theorem eqv_oi (a x : Option Int) : eqv (oi a) (oi x) = decide (a = x) := by cases a <;> cases x <;> simp [oi, eqv]
@[simp] theorem eqv_oi_int (a : Option Int) (i : Int) : eqv (oi a) (.int i) = decide (a = some i) := by cases a <;> simp [oi, eqv]
@[simp] theorem eqv_int_oi (a : Option Int) (i : Int) : eqv (.int i) (oi a) = decide (some i = a) := by cases a <;> simp [oi, eqv]
@[simp] theorem eqv_oi_non (a : Option Int) : eqv (oi a) .non = decide (a = none) := by cases a <;> simp [oi, eqv]
@[simp] theorem eqv_non_oi (a : Option Int) : eqv .non (oi a) = decide (none = a) := by cases a <;> simp [oi, eqv]
@[simp] theorem eqv_int_int (i j : Int) : eqv (.int i) (.int j) = decide (i = j) := by simp [eqv]
@[simp] theorem eqv_non_non : eqv .non .non = true := by simp [eqv]
@[simp] theorem eqv_int_non (i : Int) : eqv (.int i) .non = false := by simp [eqv]
@[simp] theorem eqv_non_int (i : Int) : eqv .non (.int i) = false := by simp [eqv]
@[simp] theorem eqv_tup (xs ys : List Val) : eqv (.tup xs) (.tup ys) = eqvs xs ys := by simp [eqv]
@[simp] theorem eqv_lst (xs ys : List Val) : eqv (.lst xs) (.lst ys) = eqvs xs ys := by simp [eqv]
@[simp] theorem eqvs_nil : eqvs [] [] = true := by simp [eqvs]
@[simp] theorem eqvs_cons (x y : Val) (xs ys : List Val) : eqvs (x :: xs) (y :: ys) = (eqv x y && eqvs xs ys) := by simp [eqvs]
@[simp] theorem eqvs_nil_cons (y : Val) (ys : List Val) : eqvs [] (y :: ys) = false := by simp [eqvs]
@[simp] theorem eqvs_cons_nil (y : Val) (ys : List Val) : eqvs (y :: ys) [] = false := by simp [eqvs]
@[simp] theorem flat_oi (a : Option Int) : flat (oi a) = true := by cases a <;> rfl
@[simp] theorem flat_int (i : Int) : flat (.int i) = true := rfl
@[simp] theorem flat_non : flat .non = true := rfl
@[simp] theorem flat_str (s : Str) : flat (.str s) = true := rfl
@[simp] theorem flat_bl (b : Bool) : flat (.bl b) = true := rfl
@[simp] theorem inW_nil (v : Val) : inW v [] = false := rfl
@[simp] theorem inW_cons (v y : Val) (vs : List Val) : inW v (y :: vs) = (eqv y v || inW v vs) := rfl
@[simp] theorem dat_oi (n : Nat) (a : Option Int) : dat n (oi a) = true := by cases a <;> cases n <;> rfl
@[simp] theorem dat_int (n : Nat) (a : Int) : dat n (.int a) = true := by cases n <;> rfl
@[simp] theorem dat_non (n : Nat) : dat n .non = true := by cases n <;> rfl
@[simp] theorem dat_bl (n : Nat) (b : Bool) : dat n (.bl b) = true := by cases n <;> rfl
@[simp] theorem dat_str (n : Nat) (b : Str) : dat n (.str b) = true := by cases n <;> rfl
@[simp] theorem dat_tup (n : Nat) (vs : List Val) : dat (n + 1) (.tup vs) = vs.all (dat n) := rfl
@[simp] theorem dat_lst (n : Nat) (vs : List Val) : dat (n + 1) (.lst vs) = vs.all (dat n) := rfl
@[simp] theorem dat8_tup (vs : List Val) : dat 8 (.tup vs) = vs.all (dat 7) := rfl
@[simp] theorem dat8_lst (vs : List Val) : dat 8 (.lst vs) = vs.all (dat 7) := rfl
@[simp] theorem dat7_tup (vs : List Val) : dat 7 (.tup vs) = vs.all (dat 6) := rfl
@[simp] theorem dat7_lst (vs : List Val) : dat 7 (.lst vs) = vs.all (dat 6) := rfl
@[simp] theorem dat6_tup (vs : List Val) : dat 6 (.tup vs) = vs.all (dat 5) := rfl
@[simp] theorem dat6_lst (vs : List Val) : dat 6 (.lst vs) = vs.all (dat 5) := rfl
@[simp] theorem isNon_oi (a : Option Int) : (oi a).isNon = decide (a = none) := by cases a <;> rfl
@[simp] theorem isB_int_oi (a : Option Int) : isB "int" (oi a) = some (!decide (a = none)) := by cases a <;> simp
@[simp] theorem isB_bool_oi (a : Option Int) : isB "bool" (oi a) = some false := by cases a <;> simp
theorem gEq_dat {v w : Val} (h : dat 8 v = true) (h' : dat 8 w = true) : gEq v w = some (.val (.bl (eqv v w))) := by
  unfold gEq
  rw [if_pos ⟨h, h'⟩]
theorem gNe_dat {v w : Val} (h : dat 8 v = true) (h' : dat 8 w = true) : gNe v w = some (.val (.bl (!eqv v w))) := by
  unfold gNe
  rw [if_pos ⟨h, h'⟩]

/-! ### comprehensions that go through -/
theorem comp_ex {T : Tgt} {d : DP} {env : Evn} {st : Store} (P : Val → Val → Prop) : ∀ (vs acc : List Val), (∀ v ∈ vs, ∃ env1 w, setT T (.val v) env = some env1 ∧ d env1 st = .ok w st ∧ P v w) → acc.length + vs.length ≤ 16777216 →
    ∃ ws, dCompGo T dYes d env vs acc st = .ok (.own (acc ++ ws)) st ∧ ws.length = vs.length ∧ (∀ w ∈ ws, ∃ v ∈ vs, P v w)
  | [], acc, _, _ => ⟨[], by simp [dCompGo], rfl, by simp⟩
  | v :: vs, acc, hv, hl => by
    obtain ⟨env1, w, h1, h2, h3⟩ := hv v List.mem_cons_self
    rw [List.length_cons] at hl
    obtain ⟨ws, k1, k2, k3⟩ := comp_ex P vs (acc ++ [w]) (fun v m => hv v (List.mem_cons_of_mem _ m)) (by rw [List.length_append, List.length_singleton]; omega)
    refine ⟨w :: ws, ?_, by rw [List.length_cons, List.length_cons, k2], fun u hu => ?_⟩
    · have hz : acc.length < sizeLine := by
        show acc.length < 16777216
        omega
      simp only [dCompGo, h1, dYes, Out.calm_ok, Out.bind_ok, if_true, h2, hz]
      rw [k1, List.append_assoc]
      rfl
    · rcases List.mem_cons.mp hu with rfl | hu
      · exact ⟨v, List.mem_cons_self, h3⟩
      · obtain ⟨v', m, q⟩ := k3 u hu
        exact ⟨v', List.mem_cons_of_mem _ m, q⟩
theorem comp_map {T : Tgt} {d : DP} {env : Evn} {st : Store} (f : Val → Val) : ∀ (vs acc : List Val), (∀ v ∈ vs, ∃ env1, setT T (.val v) env = some env1 ∧ d env1 st = .ok (f v) st) → acc.length + vs.length ≤ 16777216 →
    dCompGo T dYes d env vs acc st = .ok (.own (acc ++ vs.map f)) st
  | [], acc, _, _ => by simp [dCompGo]
  | v :: vs, acc, hv, hl => by
    obtain ⟨env1, h1, h2⟩ := hv v List.mem_cons_self
    rw [List.length_cons] at hl
    have k1 := comp_map f vs (acc ++ [f v]) (fun v m => hv v (List.mem_cons_of_mem _ m)) (by rw [List.length_append, List.length_singleton]; omega)
    have hz : acc.length < sizeLine := by
      show acc.length < 16777216
      omega
    simp only [dCompGo, h1, dYes, Out.calm_ok, Out.bind_ok, if_true, h2, hz]
    rw [k1, List.append_assoc, List.map_cons]
    rfl
theorem comp_filter {T : Tgt} {t : DT} {d : DP} {env : Evn} {st : Store} (p : Val → Bool) (f : Val → Val) : ∀ (vs acc : List Val), (∀ v ∈ vs, ∃ env1, setT T (.val v) env = some env1 ∧ t env1 st = .ok (p v) st ∧ (p v = true → d env1 st = .ok (f v) st)) → acc.length + vs.length ≤ 16777216 →
    dCompGo T t d env vs acc st = .ok (.own (acc ++ (vs.filter p).map f)) st
  | [], acc, _, _ => by simp [dCompGo]
  | v :: vs, acc, hv, hl => by
    obtain ⟨env1, h1, h2, h3⟩ := hv v List.mem_cons_self
    rw [List.length_cons] at hl
    have hz : acc.length < sizeLine := by
      show acc.length < 16777216
      omega
    cases e : p v with
    | true =>
      have k1 := comp_filter p f vs (acc ++ [f v]) (fun v m => hv v (List.mem_cons_of_mem _ m)) (by rw [List.length_append, List.length_singleton]; omega)
      simp only [dCompGo, h1, h2, e, Out.calm_ok, Out.bind_ok, if_true, h3 e, hz]
      rw [k1, List.append_assoc, List.filter_cons_of_pos e, List.map_cons]
      rfl
    | false =>
      have k1 := comp_filter p f vs acc (fun v m => hv v (List.mem_cons_of_mem _ m)) (by omega)
      simp only [dCompGo, h1, h2, e, Out.calm_ok, Out.bind_ok]
      rw [if_neg Bool.false_ne_true, k1, List.filter_cons_of_neg (by rw [e]; exact Bool.false_ne_true)]
theorem ints_of_all {ws : List Val} (h : ∀ w ∈ ws, ∃ i, w = Val.int i) : ∃ is : List Int, ws = is.map Val.int := by
  induction ws with
  | nil => exact ⟨[], rfl⟩
  | cons w ws ih =>
    obtain ⟨i, rfl⟩ := h w List.mem_cons_self
    obtain ⟨is, rfl⟩ := ih fun w m => h w (List.mem_cons_of_mem _ m)
    exact ⟨i :: is, rfl⟩
theorem size_lit : sizeLine = 16777216 := rfl
end Eg

namespace Eg
open PySem L2
/-! ### slots forgotten -/
def klO (ks : List Nat) (o : OutS) : OutS := match o with
  | .nx e s => .nx (wipeE e ks) s
  | .ct e s => .ct (wipeE e ks) s
  | o => o
@[simp] theorem klO_nx (ks e st) : klO ks (.nx e st) = .nx (wipeE e ks) st := rfl
@[simp] theorem klO_ct (ks e st) : klO ks (.ct e st) = .ct (wipeE e ks) st := rfl
@[simp] theorem klO_rt (ks r st) : klO ks (.rt r st) = .rt r st := rfl
@[simp] theorem klO_bk (ks e st) : klO ks (.bk e st) = .bk e st := rfl
@[simp] theorem klO_exc (ks c fs e st) : klO ks (.exc c fs e st) = .exc c fs e st := rfl
@[simp] theorem klO_ite {p : Prop} [Decidable p] (ks : List Nat) (a b : OutS) : klO ks (if p then a else b) = if p then klO ks a else klO ks b := by split <;> rfl
@[simp] def dKl (ks : List Nat) (d : DS) : DS := fun env st => klO ks (d env st)
@[simp] def dPk (ks : List Nat) (d : DS) : DS := fun env st => d (wipeE env ks) st
section
variable {K : PySem.W.Frag} {Z : Stc} {W : WX}
theorem SR.forget {S : Gh} {H : Hp} {σ env st} (r : SR K Z S σ H env st) (ks : List Nat) : SR K Z S σ H (wipeE env ks) st :=
  ⟨r.wf, r.str, by rw [wipeE_length]; exact r.len, fun i s h => r.sl i s (wipeE_some h).1,
    fun i j si sj l nij h1 o1 h2 a2 q1 q2 => r.sep i j si sj l nij (wipeE_some h1).1 o1 (wipeE_some h2).1 a2 q1 q2⟩
theorem extS_forget (S : Gh) (H : Hp) (env : Evn) (σ : St) (ks : List Nat) : ExtS S H env σ S H (wipeE env ks) σ :=
  ⟨⟨[], by simp⟩, Same.refl _, fun a h => .inl h, fun _ _ h _ _ => h, fun _ h => h, fun _ h => .inl h,
    fun a ⟨i, s, e, o, q⟩ => .inl ⟨i, s, (wipeE_some e).1, o, q⟩, wipeE_length _ _, fun i s h _ _ => ⟨(wipeE_some h).1, rfl⟩⟩
theorem snd_kl {t : TS} {d : DS} (ks : List Nat) (h : SndS K Z W t d) : SndS K Z W t (dKl ks d) := by
  intro S σ H env st D r p
  refine h S σ H env st D r ?_
  simp only [dKl, klO] at p
  cases e : d env st with
  | nx e1 s1 =>
    simp only [e, PostS] at p ⊢
    exact fun S' σ' H' x r' => p S' σ' H' (x.trans (extS_forget ..)) (r'.forget ks)
  | ct e1 s1 =>
    simp only [e, PostS] at p ⊢
    exact fun S' σ' H' x r' => p S' σ' H' (x.trans (extS_forget ..)) (r'.forget ks)
  | bk e1 s1 => simp only [e] at p; exact p
  | rt r s1 => simp only [e] at p; exact p
  | exc c fs e1 s1 => simp only [e] at p; exact p
  | bad => simp only [e] at p; exact p
theorem snd_pk {t : TS} {d : DS} (ks : List Nat) (h : SndS K Z W t d) : SndS K Z W t (dPk ks d) := by
  intro S σ H env st D r p
  exact h S σ H (wipeE env ks) st D (r.forget ks) (p.later (extS_forget ..))
end
section
variable {Z : Stc} {X : Cx} {W : WX}
theorem ms_pk {s : Stmt} {d : DS} (ks : List Nat) (h : MS Z X W s d) : MS Z X W s (dPk ks d) := let ⟨t, h1, h2⟩ := h; ⟨t, h1, snd_pk ks h2⟩
theorem mss_kl {s : List Stmt} {d : DS} (ks : List Nat) (h : MSs Z X W s d) : MSs Z X W s (dKl ks d) := let ⟨t, h1, h2⟩ := h; ⟨t, h1, snd_kl ks h2⟩
theorem ms_kl {s : Stmt} {d : DS} (ks : List Nat) (h : MS Z X W s d) : MS Z X W s (dKl ks d) := let ⟨t, h1, h2⟩ := h; ⟨t, h1, snd_kl ks h2⟩
/-! ### a, b = e, f -/
@[simp] def dPar (i j : Nat) (da db : DP) : DS := fun env st => dExpS (da env st) env fun v st => dExpS (db env st) env fun w st => if i < env.length ∧ j < env.length then .nx ((env.set i (some (.val v))).set j (some (.val w))) st else .bad
end

/-! ### loops as folds -/
section
variable {α σ : Type} {T : Tgt} {b : DS} {st : Store}
/-- each turn takes E s to E (f s a) -/
theorem for_fold (enc : α → Val) (E : σ → Evn) (f : σ → α → σ) (P : σ → Prop) : ∀ (l : List α) (s : σ), P s →
    (∀ s, P s → ∀ a ∈ l, (∃ env1, setT T (.val (enc a)) (E s) = some env1 ∧ (b env1 st = .nx (E (f s a)) st ∨ b env1 st = .ct (E (f s a)) st)) ∧ P (f s a)) →
    dForGo T b (l.map enc) (E s) st = .nx (E (l.foldl f s)) st
  | [], s, _, _ => rfl
  | a :: l, s, hs, h => by
    obtain ⟨⟨env1, h1, h2⟩, h3⟩ := h s hs a List.mem_cons_self
    have ih := for_fold enc E f P l (f s a) h3 fun s hs a m => h s hs a (List.mem_cons_of_mem _ m)
    simp only [List.map_cons, dForGo, h1]
    rcases h2 with h2 | h2 <;> rw [h2] <;> exact ih
/-- each turn takes E s to some E s' that is right -/
theorem for_ex (enc : α → Val) (E : σ → Evn) (I : List α → σ → Prop) (l : List α) :
    ∀ (post pre : List α) (s : σ), pre ++ post = l → I pre s →
    (∀ pre a post s, pre ++ a :: post = l → I pre s → ∃ s', (∃ env1, setT T (.val (enc a)) (E s) = some env1 ∧ (b env1 st = .nx (E s') st ∨ b env1 st = .ct (E s') st)) ∧ I (pre ++ [a]) s') →
    ∃ s', dForGo T b (post.map enc) (E s) st = .nx (E s') st ∧ I l s'
  | [], pre, s, e, hs, _ => ⟨s, rfl, by rw [← e, List.append_nil]; exact hs⟩
  | a :: post, pre, s, e, hs, h => by
    obtain ⟨s', ⟨env1, h1, h2⟩, h3⟩ := h pre a post s e hs
    obtain ⟨s'', k1, k2⟩ := for_ex enc E I l post (pre ++ [a]) s' (by rw [List.append_assoc]; exact e) h3 h
    refine ⟨s'', ?_, k2⟩
    simp only [List.map_cons, dForGo, h1]
    rcases h2 with h2 | h2 <;> rw [h2] <;> exact k1
/-- nothing changes -/
theorem for_same (enc : α → Val) (E : Evn) (l : List α) (h : ∀ a ∈ l, ∃ env1, setT T (.val (enc a)) E = some env1 ∧ (b env1 st = .nx E st ∨ b env1 st = .ct E st)) : dForGo T b (l.map enc) E st = .nx E st :=
  for_fold enc (fun _ : Unit => E) (fun _ _ => ()) (fun _ => True) l () trivial fun _ _ a m => ⟨h a m, trivial⟩
/-- .. over values -/
theorem for_sameV (E : Evn) (l : List Val) (h : ∀ a ∈ l, ∃ env1, setT T (.val a) E = some env1 ∧ (b env1 st = .nx E st ∨ b env1 st = .ct E st)) : dForGo T b l E st = .nx E st := by
  have := for_same (T := T) (b := b) (st := st) id E l h
  rwa [List.map_id] at this
/-- till a turn returns, or through -/
theorem for_find (enc : α → Val) (E : Evn) (r : α → Option R) : ∀ (l : List α),
    (∀ a ∈ l, ∃ env1, setT T (.val (enc a)) E = some env1 ∧ b env1 st = (match r a with | some x => .rt x st | none => .nx E st)) →
    dForGo T b (l.map enc) E st = (match l.findSome? r with | some x => .rt x st | none => .nx E st)
  | [], _ => rfl
  | a :: l, h => by
    obtain ⟨env1, h1, h2⟩ := h a List.mem_cons_self
    have ih := for_find enc E r l fun a m => h a (List.mem_cons_of_mem _ m)
    simp only [List.map_cons, dForGo, h1, h2, List.findSome?_cons]
    cases r a with
    | some x => rfl
    | none => exact ih
/-- a state goes on till a turn returns -/
theorem for_step (enc : α → Val) (E : σ → Evn) (f : σ → α → σ ⊕ R) : ∀ (l : List α) (s : σ), ∀ P : σ → Prop, P s →
    (∀ s, P s → ∀ a ∈ l, (∃ env1, setT T (.val (enc a)) (E s) = some env1 ∧ b env1 st = (match f s a with | .inl s' => .nx (E s') st | .inr x => .rt x st)) ∧ ∀ s', f s a = .inl s' → P s') →
    dForGo T b (l.map enc) (E s) st = (match l.foldl (fun c a => match c with | .inl s => f s a | .inr x => .inr x) (Sum.inl s) with | .inl s' => .nx (E s') st | .inr x => .rt x st)
  | [], s, _, _, _ => rfl
  | a :: l, s, P, hs, h => by
    obtain ⟨⟨env1, h1, h2⟩, h3⟩ := h s hs a List.mem_cons_self
    simp only [List.map_cons, dForGo, h1, h2, List.foldl_cons]
    cases e : f s a with
    | inl s' => exact for_step enc E f l s' P (h3 s' e) fun s hs a m => h s hs a (List.mem_cons_of_mem _ m)
    | inr x =>
      have : ∀ l : List α, l.foldl (fun c a => match c with | .inl s => f s a | .inr x => .inr x) (Sum.inr x : σ ⊕ R) = .inr x := fun l => by
        induction l with
        | nil => rfl
        | cons a l ih => rw [List.foldl_cons]; exact ih
      simp only [this]
/-- while, by a measure -/
theorem while_ex {c : DT} (E : σ → Evn) (I : σ → Prop) (m : σ → Nat) (Q : σ → Prop) :
    ∀ (n : Nat) (s : σ), m s < n → I s →
    (∀ s, I s → (c (E s) st = .ok false st ∧ Q s) ∨ (c (E s) st = .ok true st ∧ ∃ s', (b (E s) st = .nx (E s') st ∨ b (E s) st = .ct (E s') st) ∧ m s' < m s ∧ I s')) →
    ∃ s', dWhileGo c b n (E s) st = .nx (E s') st ∧ Q s'
  | 0, s, h, _, _ => absurd h (Nat.not_lt_zero _)
  | n + 1, s, h, hs, k => by
    rcases k s hs with ⟨k1, k2⟩ | ⟨k1, s', k2, k3, k4⟩
    · refine ⟨s, ?_, k2⟩
      simp only [dWhileGo, k1, dExpS_ok]
      rw [if_neg Bool.false_ne_true]
    · obtain ⟨s'', q1, q2⟩ := while_ex E I m Q n s' (by omega) k4 k
      refine ⟨s'', ?_, q2⟩
      simp only [dWhileGo, k1, dExpS_ok, if_true]
      rcases k2 with k2 | k2 <;> rw [k2] <;> exact q1
end
/-! ### comprehensions as map, over things -/
section
variable {α β : Type} {T : Tgt} {st : Store} {env : Evn}
theorem comp_mapA {d : DP} (enc : α → Val) (f : α → Val) (l : List α) (acc : List Val) (h : ∀ a ∈ l, ∃ env1, setT T (.val (enc a)) env = some env1 ∧ d env1 st = .ok (f a) st) (hl : acc.length + l.length ≤ 16777216) :
    dCompGo T dYes d env (l.map enc) acc st = .ok (.own (acc ++ l.map f)) st := by
  induction l generalizing acc with
  | nil => simp [dCompGo]
  | cons a l ih =>
    obtain ⟨env1, h1, h2⟩ := h a List.mem_cons_self
    rw [List.length_cons] at hl
    have hz : acc.length < sizeLine := by
      show acc.length < 16777216
      omega
    have k1 := ih (acc ++ [f a]) (fun a m => h a (List.mem_cons_of_mem _ m)) (by rw [List.length_append, List.length_singleton]; omega)
    simp only [List.map_cons, dCompGo, h1, dYes, Out.calm_ok, Out.bind_ok, if_true, h2, hz]
    rw [k1, List.append_assoc]
    rfl
theorem comp_filterA {t : DT} {d : DP} (enc : α → Val) (p : α → Bool) (f : α → Val) (l : List α) (acc : List Val) (h : ∀ a ∈ l, ∃ env1, setT T (.val (enc a)) env = some env1 ∧ t env1 st = .ok (p a) st ∧ (p a = true → d env1 st = .ok (f a) st)) (hl : acc.length + l.length ≤ 16777216) :
    dCompGo T t d env (l.map enc) acc st = .ok (.own (acc ++ (l.filter p).map f)) st := by
  induction l generalizing acc with
  | nil => simp [dCompGo]
  | cons a l ih =>
    obtain ⟨env1, h1, h2, h3⟩ := h a List.mem_cons_self
    rw [List.length_cons] at hl
    have hz : acc.length < sizeLine := by
      show acc.length < 16777216
      omega
    cases e : p a with
    | true =>
      have k1 := ih (acc ++ [f a]) (fun a m => h a (List.mem_cons_of_mem _ m)) (by rw [List.length_append, List.length_singleton]; omega)
      simp only [List.map_cons, dCompGo, h1, h2, e, Out.calm_ok, Out.bind_ok, if_true, h3 e, hz]
      rw [k1, List.append_assoc, List.filter_cons_of_pos e, List.map_cons]
      rfl
    | false =>
      have k1 := ih acc (fun a m => h a (List.mem_cons_of_mem _ m)) (by omega)
      simp only [List.map_cons, dCompGo, h1, h2, e, Out.calm_ok, Out.bind_ok]
      rw [if_neg Bool.false_ne_true, k1, List.filter_cons_of_neg (by rw [e]; exact Bool.false_ne_true)]
end
/-! ### indices -/
theorem atI_map_ofNat {α β : Type} (f : α → β) (l : List α) (k : Nat) : atI (l.map f) (k : Int) = (l[k]?).map f := by rw [atI_map, atI_ofNat]
theorem atI_last {α : Type} (l : List α) (a : α) : atI (l ++ [a]) (-1) = some a := by
  unfold atI ixN
  rw [List.length_append, List.length_singleton, if_neg (by decide), if_pos (by omega)]
  have e : (-1 + ((l.length + 1 : Nat) : Int)).toNat = l.length := by omega
  rw [e]
  simp
end Eg

/-! Things that most laws share: rows, their equality, ranges, loops that look for a fault. -/
namespace Eg
open PySem L2
theorem eqvs_map {α : Type} [DecidableEq α] {f : α → Val} (h : ∀ a b, eqv (f a) (f b) = decide (a = b)) : ∀ l l' : List α, eqvs (l.map f) (l'.map f) = decide (l = l')
  | [], [] => by simp
  | [], b :: l' => by simp
  | a :: l, [] => by simp
  | a :: l, b :: l' => by
    rw [List.map_cons, List.map_cons, eqvs_cons, h, eqvs_map h l l']
    by_cases e : a = b <;> by_cases e' : l = l' <;> simp [e, e']
theorem dat_map {α : Type} {f : α → Val} {n : Nat} (h : ∀ a, dat n (f a) = true) (l : List α) : (l.map f).all (dat n) = true := by
  rw [List.all_map]
  exact List.all_eq_true.mpr fun a _ => h a
/-- a piece: an end or none, an end or none, a number -/
abbrev Pc := Option Int × Option Int × Int
abbrev Rw := Option Int × Option Int × Option Int
def tp3 (p : Pc) : Val := .tup [oi p.1, oi p.2.1, .int p.2.2]
def trw (p : Rw) : Val := .tup [oi p.1, oi p.2.1, oi p.2.2]
def rwOf (p : Pc) : Rw := (p.1, p.2.1, some p.2.2)
theorem trw_of (p : Pc) : trw (rwOf p) = tp3 p := rfl
theorem eqv_tp3 (a b : Pc) : eqv (tp3 a) (tp3 b) = decide (a = b) := by
  obtain ⟨a1, a2, a3⟩ := a
  obtain ⟨b1, b2, b3⟩ := b
  simp [tp3, Bool.decide_and]
theorem eqv_trw (a b : Rw) : eqv (trw a) (trw b) = decide (a = b) := by
  obtain ⟨a1, a2, a3⟩ := a
  obtain ⟨b1, b2, b3⟩ := b
  simp [trw, Bool.decide_and]
@[simp] theorem dat_tp3 (n : Nat) (a : Pc) : dat (n + 1) (tp3 a) = true := by simp [tp3]
@[simp] theorem dat_trw (n : Nat) (a : Rw) : dat (n + 1) (trw a) = true := by simp [trw]
@[simp] theorem dat7_tp3 (a : Pc) : dat 7 (tp3 a) = true := dat_tp3 6 a
@[simp] theorem dat7_trw (a : Rw) : dat 7 (trw a) = true := dat_trw 6 a
@[simp] theorem dat8_tp3s (l : List Pc) : dat 8 (.lst (l.map tp3)) = true := dat_map dat7_tp3 l
@[simp] theorem dat8_trws (l : List Rw) : dat 8 (.lst (l.map trw)) = true := dat_map dat7_trw l
@[simp] theorem dat8_nil : dat 8 (.lst []) = true := rfl
@[simp] theorem dat8_ints (l : List Int) : dat 8 (.lst (l.map Val.int)) = true := dat_map (dat_int 7) l
@[simp] theorem gEq_tp3s (l l' : List Pc) : gEq (.lst (l.map tp3)) (.lst (l'.map tp3)) = some (.val (.bl (decide (l = l')))) := by
  rw [gEq_dat (dat8_tp3s l) (dat8_tp3s l'), eqv_lst, eqvs_map eqv_tp3]
@[simp] theorem gNe_tp3s (l l' : List Pc) : gNe (.lst (l.map tp3)) (.lst (l'.map tp3)) = some (.val (.bl (!decide (l = l')))) := by
  rw [gNe_dat (dat8_tp3s l) (dat8_tp3s l'), eqv_lst, eqvs_map eqv_tp3]
@[simp] theorem gEq_trws (l l' : List Rw) : gEq (.lst (l.map trw)) (.lst (l'.map trw)) = some (.val (.bl (decide (l = l')))) := by
  rw [gEq_dat (dat8_trws l) (dat8_trws l'), eqv_lst, eqvs_map eqv_trw]
@[simp] theorem gNe_trws (l l' : List Rw) : gNe (.lst (l.map trw)) (.lst (l'.map trw)) = some (.val (.bl (!decide (l = l')))) := by
  rw [gNe_dat (dat8_trws l) (dat8_trws l'), eqv_lst, eqvs_map eqv_trw]
theorem eqvs_map_nil {α : Type} (f : α → Val) (l : List α) : eqvs (l.map f) [] = l.isEmpty := by cases l <;> simp
@[simp] theorem gNe_nil (vs : List Val) (h : vs.all (dat 7) = true) : gNe (.lst vs) (.lst []) = some (.val (.bl (!vs.isEmpty))) := by
  have h' : dat 8 (.lst vs) = true := h
  rw [gNe_dat h' rfl, eqv_lst]
  cases vs <;> simp
@[simp] theorem gEq_nil (vs : List Val) (h : vs.all (dat 7) = true) : gEq (.lst vs) (.lst []) = some (.val (.bl vs.isEmpty)) := by
  have h' : dat 8 (.lst vs) = true := h
  rw [gEq_dat h' rfl, eqv_lst]
  cases vs <;> simp
@[simp] theorem gNe_tp3s_nil (l : List Pc) : gNe (.lst (l.map tp3)) (.lst []) = some (.val (.bl (!l.isEmpty))) := by
  rw [gNe_nil _ (dat_map dat7_tp3 l), List.isEmpty_map]
@[simp] theorem gEq_tp3s_nil (l : List Pc) : gEq (.lst (l.map tp3)) (.lst []) = some (.val (.bl l.isEmpty)) := by
  rw [gEq_nil _ (dat_map dat7_tp3 l), List.isEmpty_map]
@[simp] theorem gNe_trws_nil (l : List Rw) : gNe (.lst (l.map trw)) (.lst []) = some (.val (.bl (!l.isEmpty))) := by
  rw [gNe_nil _ (dat_map dat7_trw l), List.isEmpty_map]
@[simp] theorem gEq_trws_nil (l : List Rw) : gEq (.lst (l.map trw)) (.lst []) = some (.val (.bl l.isEmpty)) := by
  rw [gEq_nil _ (dat_map dat7_trw l), List.isEmpty_map]
/-! ### ranges -/
theorem rgI_map : ∀ (n : Nat) (lo : Int), rgI lo n = (List.range n).map fun k : Nat => Val.int (lo + k)
  | 0, lo => rfl
  | n + 1, lo => by
    rw [List.range_succ_eq_map, List.map_cons, List.map_map]
    show Val.int lo :: rgI (lo + 1) n = _
    rw [rgI_map n (lo + 1)]
    congr 1
    · simp
    · refine List.map_congr_left fun k _ => ?_
      show Val.int _ = Val.int _
      congr 1
      push_cast
      omega
theorem gRng_one {n : Nat} (h : n ≤ 16777216) : gRng [.int (n : Int)] = some ((List.range n).map fun k : Nat => Val.int (k : Int)) := by
  have e : rgOk (n : Int) = true := cB_of (by omega)
  simp only [gRng, e, if_true]
  rw [rgI_map]
  simp
theorem gRng_from1 {n : Nat} (h : n ≤ 16777216) : gRng [.int 1, .int (n : Int)] = some ((List.range (n - 1)).map fun k : Nat => Val.int (1 + (k : Int))) := by
  have e : rgOk (n : Int) = true := cB_of (by omega)
  have e1 : rgOk 1 = true := cB_of (by omega)
  simp only [gRng, e, e1, and_self, if_true]
  rw [rgI_map, show ((n : Int) - 1).toNat = n - 1 by omega]
theorem gRng_two {a b : Int} (ha : a.natAbs ≤ 16777216) (hb : b.natAbs ≤ 16777216) : gRng [.int a, .int b] = some ((List.range (b - a).toNat).map fun k : Nat => Val.int (a + (k : Int))) := by
  have e : rgOk a = true := cB_of (by omega)
  have e1 : rgOk b = true := cB_of (by omega)
  simp only [gRng, e, e1, and_self, if_true]
  rw [rgI_map]
theorem rgC_map : ∀ (n : Nat) (lo c : Int), rgC lo c n = (List.range n).map fun k : Nat => Val.int (lo + k * c)
  | 0, lo, c => rfl
  | n + 1, lo, c => by
    rw [List.range_succ_eq_map, List.map_cons, List.map_map]
    show Val.int lo :: rgC (lo + c) c n = _
    rw [rgC_map n (lo + c) c]
    congr 1
    · simp
    · refine List.map_congr_left fun k _ => ?_
      show Val.int _ = Val.int _
      congr 1
      simp only [Nat.succ_eq_add_one, Int.natCast_add, Int.add_mul]
      omega
/-! ### loops that look for a fault -/
section
variable {α : Type} {T : Tgt} {b : DS} {st : Store}
theorem for_all (enc : α → Val) (E : Evn) (ok : α → Bool) (l : List α) (h : ∀ a ∈ l, ∃ env1, setT T (.val (enc a)) E = some env1 ∧ b env1 st = if ok a = true then .nx E st else .rt (.val (.bl false)) st) :
    dForGo T b (l.map enc) E st = if l.all ok = true then .nx E st else .rt (.val (.bl false)) st := by
  induction l with
  | nil => simp [dForGo]
  | cons a l ih =>
    obtain ⟨env1, h1, h2⟩ := h a List.mem_cons_self
    have ih := ih fun a m => h a (List.mem_cons_of_mem _ m)
    simp only [List.map_cons, dForGo, h1, h2, List.all_cons]
    by_cases e : ok a = true
    · simp only [e, if_true, Bool.true_and]
      exact ih
    · have e' : ok a = false := by simpa using e
      simp [e']
end
/-! ### items at an index -/
section
variable {α : Type}
theorem at_nat {f : α → Val} {l : List α} {k : Nat} {a : α} (h : l[k]? = some a) : atI (l.map f) (k : Int) = some (f a) := by rw [atI_map_ofNat, h]; rfl
theorem at_nat1 {f : α → Val} {l : List α} {k : Nat} {a : α} (h : l[k + 1]? = some a) : atI (l.map f) (1 + (k : Int)) = some (f a) := by
  have := at_nat (f := f) h
  rw [show (1 : Int) + (k : Int) = ((k + 1 : Nat) : Int) by omega]
  exact this
theorem at_nat1' {f : α → Val} {l : List α} {k : Nat} {a : α} (h : l[k + 1]? = some a) : atI (l.map f) ((k : Int) + 1) = some (f a) := at_nat h
theorem at_last {f : α → Val} (l : List α) (a : α) : atI ((l ++ [a]).map f) (-1) = some (f a) := by rw [List.map_append]; exact atI_last _ _
theorem at_mod {f : α → Val} {l : List α} (x : Int) (h : l ≠ []) : ∃ k a, x % (l.length : Int) = ((k : Nat) : Int) ∧ l[k]? = some a ∧ atI (l.map f) (x % (l.length : Int)) = some (f a) := by
  have hl : 0 < l.length := List.length_pos_iff.mpr h
  have h0 := Int.emod_nonneg x (show (l.length : Int) ≠ 0 by omega)
  have h1 := Int.emod_lt_of_pos x (show (0 : Int) < l.length by omega)
  obtain ⟨k, hk⟩ := Int.eq_ofNat_of_zero_le h0
  have hk2 : k < l.length := by omega
  refine ⟨k, l[k], hk, List.getElem?_eq_getElem hk2, ?_⟩
  rw [hk]
  exact at_nat (List.getElem?_eq_getElem hk2)
end
end Eg
namespace Eg
open PySem L2
theorem sz {n : Nat} (h : n ≤ 10000000) : n < sizeLine := by show n < 16777216; omega
theorem sz0 : 0 < sizeLine := by decide
theorem szl {n : Nat} (h : n ≤ 10000000) : n ≤ sizeLine := by show n ≤ 16777216; omega
theorem ixN_ok {n : Nat} {i : Int} (h : -(n : Int) ≤ i) (h' : i < n) : ∃ j, j < n ∧ ixN n i = some j := by
  unfold ixN
  by_cases h0 : 0 ≤ i
  · exact ⟨i.toNat, by omega, by rw [if_pos h0, if_pos h']⟩
  · exact ⟨(i + n).toNat, by omega, by rw [if_neg h0, if_pos h]⟩
theorem ixN_nat {n k : Nat} (h : k < n) : ixN n (k : Int) = some k := by
  unfold ixN
  rw [if_pos (by omega), if_pos (by omega)]
  rfl
theorem ixN_m1 (n : Nat) : ixN (n + 1) (-1) = some n := by
  unfold ixN
  rw [if_neg (by decide), if_pos (by omega)]
  congr 1
  omega
theorem atI_ok {α β : Type} {f : α → β} {l : List α} {i : Int} (h : -(l.length : Int) ≤ i) (h' : i < l.length) : ∃ j a, ixN l.length i = some j ∧ l[j]? = some a ∧ atI (l.map f) i = some (f a) := by
  obtain ⟨j, hj, e⟩ := ixN_ok h h'
  refine ⟨j, l[j], e, List.getElem?_eq_getElem hj, ?_⟩
  unfold atI
  rw [List.length_map, e]
  simp [List.getElem?_eq_getElem hj]
theorem get_ex {α : Type} [Inhabited α] {l : List α} {k : Nat} (h : k < l.length) : ∃ a, l[k]? = some a ∧ l.getD k default = a :=
  ⟨l[k], List.getElem?_eq_getElem h, by simp [List.getD, h]⟩
/-- range(2, min(len(script) - 1, 64), 2) -/
theorem rng_step2 (L : Nat) (hL : L ≤ 63) : ∃ n : Nat, n ≤ 31 ∧ (∀ k : Nat, k < n → 2 + 2 * k + 1 < L) ∧ gRng3 [.int 2, .int (if 64 < (L : Int) - 1 then 64 else (L : Int) - 1), .int 2] = some ((List.range n).map fun k : Nat => Val.int (2 + k * 2)) := by
  rw [if_neg (by omega)]
  refine ⟨(Builtin.Range.rangeSize 2 ((L : Int) - 1) 2).toNat, ?_, ?_, ?_⟩
  · unfold Builtin.Range.rangeSize
    rw [if_pos (by decide)]
    split <;> omega
  · intro k hk
    unfold Builtin.Range.rangeSize at hk
    rw [if_pos (by decide)] at hk
    split at hk <;> omega
  · have hs : Builtin.Range.small 2 ((L : Int) - 1) 2 = true := by
      have all : ∀ l : Fin 64, Builtin.Range.small 2 ((l.val : Int) - 1) 2 = true := by decide +kernel
      exact all ⟨L, by omega⟩
    have h0 : 0 ≤ Builtin.Range.rangeSize 2 ((L : Int) - 1) 2 := by
      unfold Builtin.Range.rangeSize
      rw [if_pos (by decide)]
      split <;> omega
    have ok : rgOk3 2 ((L : Int) - 1) 2 = true := cB_of ⟨by decide, by decide, hs, h0⟩
    simp only [gRng3, ok, if_true]
    rw [rgC_map]
end Eg

/-! Maps: plain mathematics. -/
namespace Eg
abbrev OI := Option Int
/-- a span has a place -/
def inS (lo hi : OI) (p : Int) : Bool := (match lo with | none => true | some l => decide (l ≤ p)) && (match hi with | none => true | some h => decide (p < h))
@[simp] theorem inS_nn (p : Int) : inS none none p = true := rfl
@[simp] theorem inS_sn (l p : Int) : inS (some l) none p = decide (l ≤ p) := by simp [inS]
@[simp] theorem inS_ns (h p : Int) : inS none (some h) p = decide (p < h) := by simp [inS]
@[simp] theorem inS_ss (l h p : Int) : inS (some l) (some h) p = (decide (l ≤ p) && decide (p < h)) := rfl
/-- ends that are a span -/
def spO : OI → OI → Prop
  | some l, some h => l < h
  | _, _ => True
/-- one ends at or ahead of the other's begin -/
def leO : OI → OI → Prop
  | some h, some l => h ≤ l
  | _, _ => False
def ltO : OI → OI → Prop
  | some h, some l => h < l
  | _, _ => False
theorem leO_some {a b : OI} (h : leO a b) : ∃ x y, a = some x ∧ b = some y ∧ x ≤ y := by
  cases a <;> cases b <;> simp [leO] at h ⊢
  exact h
/-- what rows tell: the last that has the place -/
def val (rows : List Rw) (p : Int) : OI := rows.foldl (fun t r => if inS r.1 r.2.1 p = true then r.2.2 else t) none
@[simp] theorem val_nil (p : Int) : val [] p = none := rfl
theorem val_snoc (rows : List Rw) (r : Rw) (p : Int) : val (rows ++ [r]) p = if inS r.1 r.2.1 p = true then r.2.2 else val rows p := by
  unfold val
  rw [List.foldl_append]
  rfl
theorem val_append_none {b : List Rw} (a : List Rw) {p : Int} (h : ∀ r ∈ b, inS r.1 r.2.1 p = false) : val (a ++ b) p = val a p := by
  unfold val
  rw [List.foldl_append]
  generalize List.foldl _ none a = t
  induction b generalizing t with
  | nil => rfl
  | cons r b ih =>
    rw [List.foldl_cons, h r List.mem_cons_self, if_neg Bool.false_ne_true]
    exact ih (fun r m => h r (List.mem_cons_of_mem _ m)) t
theorem foldl_val (b : List Rw) (t : OI) (p : Int) : b.foldl (fun t r => if inS r.1 r.2.1 p = true then r.2.2 else t) t = if b.any (fun r => inS r.1 r.2.1 p) = true then val b p else t := by
  unfold val
  induction b generalizing t with
  | nil => simp
  | cons r b ih =>
    rw [List.foldl_cons, List.foldl_cons, ih, ih (if inS r.1 r.2.1 p = true then r.2.2 else none)]
    cases h : inS r.1 r.2.1 p <;> cases h2 : b.any (fun r => inS r.1 r.2.1 p) <;> simp [h, h2]
theorem val_append (a b : List Rw) (p : Int) : val (a ++ b) p = if b.any (fun r => inS r.1 r.2.1 p) = true then val b p else val a p := by
  unfold val
  rw [List.foldl_append]
  exact foldl_val b _ p
/-- rows in their order, apart -/
def OrdR (rows : List Rw) : Prop := rows.Pairwise (fun a b => leO a.2.1 b.1) ∧ ∀ r ∈ rows, spO r.1 r.2.1
/-- pieces that may stand side by side -/
def Lk (a b : Pc) : Prop := ltO a.2.1 b.1 ∨ (leO a.2.1 b.1 ∧ a.2.2 ≠ b.2.2)
/-- a map in the one form -/
def WF (m : List Pc) : Prop := m.Pairwise Lk ∧ ∀ p ∈ m, spO p.1 p.2.1
def vl (m : List Pc) (p : Int) : OI := val (m.map rwOf) p
@[simp] theorem vl_nil (p : Int) : vl [] p = none := rfl
theorem vl_snoc (m : List Pc) (r : Pc) (p : Int) : vl (m ++ [r]) p = if inS r.1 r.2.1 p = true then some r.2.2 else vl m p := by
  unfold vl
  rw [List.map_append]
  exact val_snoc _ _ _
theorem Lk.le {a b : Pc} (h : Lk a b) : leO a.2.1 b.1 := by
  obtain ⟨a1, a2, a3⟩ := a
  obtain ⟨b1, b2, b3⟩ := b
  rcases h with h | h
  · cases a2 <;> cases b1 <;> simp [ltO, leO] at h ⊢
    omega
  · exact h.1
theorem WF.ord {m : List Pc} (h : WF m) : OrdR (m.map rwOf) := by
  refine ⟨?_, ?_⟩
  · rw [List.pairwise_map]
    exact h.1.imp fun q => Lk.le q
  · intro r hr
    obtain ⟨p, hp, rfl⟩ := List.mem_map.mp hr
    exact h.2 p hp
theorem WF.nil : WF [] := ⟨List.Pairwise.nil, by simp⟩
theorem ord_nil : OrdR [] := ⟨List.Pairwise.nil, by simp⟩
theorem ord_snoc {rows : List Rw} {r : Rw} : OrdR (rows ++ [r]) ↔ OrdR rows ∧ (∀ a ∈ rows, leO a.2.1 r.1) ∧ spO r.1 r.2.1 := by
  unfold OrdR
  rw [List.pairwise_append]
  constructor
  · rintro ⟨⟨h1, _, h2⟩, h3⟩
    exact ⟨⟨h1, fun a m => h3 a (List.mem_append_left _ m)⟩, fun a m => h2 a m r (by simp), h3 r (by simp)⟩
  · rintro ⟨⟨h1, h2⟩, h3, h4⟩
    refine ⟨⟨h1, by simp, fun a m b mb => ?_⟩, fun a m => ?_⟩
    · rw [List.mem_singleton.mp mb]; exact h3 a m
    · rcases List.mem_append.mp m with m | m
      · exact h2 a m
      · rw [List.mem_singleton.mp m]; exact h4
theorem wf_snoc {m : List Pc} {r : Pc} : WF (m ++ [r]) ↔ WF m ∧ (∀ a ∈ m, Lk a r) ∧ spO r.1 r.2.1 := by
  unfold WF
  rw [List.pairwise_append]
  constructor
  · rintro ⟨⟨h1, _, h2⟩, h3⟩
    exact ⟨⟨h1, fun a m => h3 a (List.mem_append_left _ m)⟩, fun a m => h2 a m r (by simp), h3 r (by simp)⟩
  · rintro ⟨⟨h1, h2⟩, h3, h4⟩
    refine ⟨⟨h1, by simp, fun a m b mb => ?_⟩, fun a m => ?_⟩
    · rw [List.mem_singleton.mp mb]; exact h3 a m
    · rcases List.mem_append.mp m with m | m
      · exact h2 a m
      · rw [List.mem_singleton.mp m]; exact h4
theorem ord_append {a b : List Rw} : OrdR (a ++ b) ↔ OrdR a ∧ OrdR b ∧ ∀ x ∈ a, ∀ y ∈ b, leO x.2.1 y.1 := by
  unfold OrdR
  rw [List.pairwise_append]
  constructor
  · rintro ⟨⟨h1, h2, h3⟩, h4⟩
    exact ⟨⟨h1, fun x m => h4 x (List.mem_append_left _ m)⟩, ⟨h2, fun x m => h4 x (List.mem_append_right _ m)⟩, h3⟩
  · rintro ⟨⟨h1, h2⟩, ⟨h3, h4⟩, h5⟩
    exact ⟨⟨h1, h3, h5⟩, fun x m => (List.mem_append.mp m).elim (h2 x) (h4 x)⟩
/-! ### knit -/
def knitS (found : List Pc) (r : Rw) : List Pc := match r.2.2 with
  | none => found
  | some v => match found.getLast? with
    | some l => if l.2.1 = r.1 ∧ l.2.2 = v then found.dropLast ++ [(l.1, r.2.1, v)] else found ++ [(r.1, r.2.1, v)]
    | none => found ++ [(r.1, r.2.1, v)]
def knitM (rows : List Rw) : List Pc := rows.foldl knitS []
theorem knitS_len (f : List Pc) (r : Rw) : (knitS f r).length ≤ f.length + 1 := by
  unfold knitS
  split
  · omega
  · split
    · split
      · simp only [List.length_append, List.length_dropLast, List.length_singleton]; omega
      · simp
    · simp
theorem knitM_len (rows : List Rw) : (knitM rows).length ≤ rows.length := by
  unfold knitM
  have h : ∀ (rows : List Rw) (f : List Pc), (rows.foldl knitS f).length ≤ f.length + rows.length := by
    intro rows
    induction rows with
    | nil => intro f; simp
    | cons r rows ih =>
      intro f
      have := ih (knitS f r)
      have := knitS_len f r
      simp only [List.foldl_cons, List.length_cons]
      omega
  simpa using h rows []
theorem spO_trans_lt {a : OI} {l : Pc} {c : OI} (h1 : leO a l.1) (h2 : spO l.1 l.2.1) (h3 : leO l.2.1 c) : ltO a c := by
  obtain ⟨l1, l2, l3⟩ := l
  cases a <;> cases l1 <;> cases l2 <;> cases c <;> simp [leO, ltO, spO] at h1 h2 h3 ⊢
  omega
theorem inS_join {lo m hi : OI} (h1 : spO lo m) (h2 : spO m hi) (hm : m ≠ none) (p : Int) : inS lo hi p = (inS lo m p || inS m hi p) := by
  cases m with
  | none => exact absurd rfl hm
  | some x =>
    rw [Bool.eq_iff_iff]
    cases lo <;> cases hi <;> simp [spO] at h1 h2 ⊢ <;> omega
theorem knit_step {found : List Pc} {pre : List Rw} {r : Rw} {post : List Rw} (w : WF found) (hv : ∀ p, vl found p = val pre p) (hq : ∀ f ∈ found, ∀ r' ∈ r :: post, leO f.2.1 r'.1) (hr : spO r.1 r.2.1) (hp : ∀ r' ∈ post, leO r.2.1 r'.1) :
    WF (knitS found r) ∧ (∀ p, vl (knitS found r) p = val (pre ++ [r]) p ∨ (r.2.2 = none ∧ inS r.1 r.2.1 p = true ∧ vl (knitS found r) p = val pre p)) ∧ (∀ f ∈ knitS found r, ∀ r' ∈ post, leO f.2.1 r'.1) := by
  obtain ⟨lo, hi, v⟩ := r
  cases v with
  | none =>
    refine ⟨w, fun p => ?_, fun f hf r' h => hq f hf r' (List.mem_cons_of_mem _ h)⟩
    rw [val_snoc]
    by_cases e : inS lo hi p = true
    · exact .inr ⟨rfl, e, hv p⟩
    · left
      rw [if_neg e]
      exact hv p
  | some v =>
    have put : (∀ a ∈ found, Lk a (lo, hi, v)) → WF (found ++ [(lo, hi, v)]) ∧ (∀ p, vl (found ++ [(lo, hi, v)]) p = val (pre ++ [(lo, hi, some v)]) p) ∧ (∀ f ∈ found ++ [(lo, hi, v)], ∀ r' ∈ post, leO f.2.1 r'.1) := by
      intro h
      refine ⟨wf_snoc.mpr ⟨w, h, hr⟩, fun p => ?_, fun f hf r' m => ?_⟩
      · rw [vl_snoc, val_snoc, hv p]
      · rcases List.mem_append.mp hf with hf | hf
        · exact hq f hf r' (List.mem_cons_of_mem _ m)
        · rw [List.mem_singleton.mp hf]; exact hp r' m
    rcases List.eq_nil_or_concat found with rfl | ⟨fs, l, rfl⟩
    · have e : knitS [] (lo, hi, some v) = [] ++ [(lo, hi, v)] := rfl
      rw [e]
      obtain ⟨a, b, c⟩ := put (by simp)
      exact ⟨a, fun p => .inl (b p), c⟩
    · rw [List.concat_eq_append] at *
      have gl : (fs ++ [l]).getLast? = some l := by simp
      have e : knitS (fs ++ [l]) (lo, hi, some v) = if l.2.1 = lo ∧ l.2.2 = v then fs ++ [(l.1, hi, v)] else fs ++ [l] ++ [(lo, hi, v)] := by
        unfold knitS
        simp only [gl, List.dropLast_concat]
      rw [e]
      obtain ⟨wf, wl, sl⟩ := wf_snoc.mp w
      have hl : leO l.2.1 lo := hq l (by simp) _ List.mem_cons_self
      by_cases c : l.2.1 = lo ∧ l.2.2 = v
      · rw [if_pos c]
        obtain ⟨l1, l2, l3⟩ := l
        obtain ⟨rfl, rfl⟩ : l2 = lo ∧ l3 = v := c
        have ns : l2 ≠ none := by
          cases l2 with
          | none => exact absurd hl (by simp [leO])
          | some x => simp
        have sp : spO l1 hi := by
          cases l2 with
          | none => exact absurd rfl ns
          | some x =>
            cases l1 <;> cases hi <;> simp [spO] at hr sl ⊢
            omega
        refine ⟨wf_snoc.mpr ⟨wf, fun a m => wl a m, sp⟩, fun p => .inl ?_, fun f hf r' m => ?_⟩
        · have hv' := hv p
          rw [vl_snoc] at hv'
          rw [vl_snoc, val_snoc, ← hv']
          show (if inS l1 hi p = true then some l3 else vl fs p) = if inS l2 hi p = true then some l3 else if inS l1 l2 p = true then some l3 else vl fs p
          rw [inS_join sl hr ns p]
          cases inS l1 l2 p <;> cases inS l2 hi p <;> rfl
        · rcases List.mem_append.mp hf with hf | hf
          · exact hq f (List.mem_append_left _ hf) r' (List.mem_cons_of_mem _ m)
          · rw [List.mem_singleton.mp hf]; exact hp r' m
      · rw [if_neg c]
        obtain ⟨a, b, d⟩ := put (by
          intro a m
          rcases List.mem_append.mp m with m | m
          · exact .inl (spO_trans_lt (wl a m).le sl hl)
          · rw [List.mem_singleton.mp m]
            obtain ⟨l1, l2, l3⟩ := l
            by_cases c1 : l2 = lo
            · exact .inr ⟨hl, fun z => c ⟨c1, z⟩⟩
            · left
              cases l2 <;> cases lo <;> simp [leO, ltO] at hl c1 ⊢
              show _ < _
              omega)
        exact ⟨a, fun p => .inl (b p), d⟩
/-- what rows in their order tell where None may be told as nothing -/
theorem ord_val_none {pre : List Rw} {r : Rw} (h : OrdR (pre ++ [r])) {p : Int} (e : inS r.1 r.2.1 p = true) : val pre p = none := by
  obtain ⟨_, h2, _⟩ := ord_snoc.mp h
  have : val ([] ++ pre) p = val [] p := val_append_none [] (by
    intro a m
    have := h2 a m
    obtain ⟨a1, a2, a3⟩ := a
    obtain ⟨r1, r2, r3⟩ := r
    cases a2 <;> cases r1 <;> simp [leO] at this
    cases a1 <;> cases r2 <;> simp at e ⊢ <;> omega)
  simpa using this
theorem knit_ok {rows : List Rw} (h : OrdR rows) : WF (knitM rows) ∧ ∀ p, vl (knitM rows) p = val rows p := by
  have go : ∀ (post pre : List Rw) (found : List Pc), OrdR (pre ++ post) → WF found → (∀ p, vl found p = val pre p) → (∀ f ∈ found, ∀ r' ∈ post, leO f.2.1 r'.1) →
      WF (post.foldl knitS found) ∧ ∀ p, vl (post.foldl knitS found) p = val (pre ++ post) p := by
    intro post
    induction post with
    | nil =>
      intro pre found _ w hv _
      exact ⟨w, by simpa using hv⟩
    | cons r post ih =>
      intro pre found ho w hv hq
      have e : pre ++ r :: post = (pre ++ [r]) ++ post := by simp
      rw [e] at ho ⊢
      obtain ⟨h1, h2, h3⟩ := ord_append.mp ho
      obtain ⟨_, _, hr⟩ := ord_snoc.mp h1
      obtain ⟨k1, k2, k3⟩ := knit_step w hv hq hr fun r' m => h3 r (by simp) r' m
      refine ih (pre ++ [r]) (knitS found r) ho k1 (fun p => ?_) k3
      rcases k2 p with k | ⟨ka, kb, kc⟩
      · exact k
      · rw [kc, val_snoc, if_pos kb, ka]
        exact ord_val_none h1 kb
  have := go rows [] [] (by simpa using h) WF.nil (by simp) (by simp)
  rwa [List.nil_append] at this
end Eg
namespace Eg
open PySem L2
theorem map_tp3 (m : List Pc) : m.map tp3 = (m.map rwOf).map trw := by
  rw [List.map_map]
  rfl
theorem wf_sp {m : List Pc} (h : WF m) {k : Nat} {b : Pc} (e : m[k]? = some b) : spO b.1 b.2.1 := h.2 b (List.mem_of_getElem? e)
theorem wf_lk {m : List Pc} (h : WF m) {k j : Nat} {a b : Pc} (hk : k < j) (e : m[k]? = some a) (e' : m[j]? = some b) : Lk a b := by
  obtain ⟨h1, rfl⟩ := List.getElem?_eq_some_iff.mp e
  obtain ⟨h2, rfl⟩ := List.getElem?_eq_some_iff.mp e'
  exact List.pairwise_iff_getElem.mp h.1 k j h1 h2 hk
@[simp] theorem gEq_oi (a b : Option Int) : gEq (oi a) (oi b) = some (.val (.bl (decide (a = b)))) := by rw [gEq_dat (dat_oi _ _) (dat_oi _ _), eqv_oi]
@[simp] theorem gNe_oi (a b : Option Int) : gNe (oi a) (oi b) = some (.val (.bl (!decide (a = b)))) := by rw [gNe_dat (dat_oi _ _) (dat_oi _ _), eqv_oi]
@[simp] theorem gEq_oi_int (a : Option Int) (b : Int) : gEq (oi a) (.int b) = some (.val (.bl (decide (a = some b)))) := gEq_oi a (some b)
@[simp] theorem gNe_oi_int (a : Option Int) (b : Int) : gNe (oi a) (.int b) = some (.val (.bl (!decide (a = some b)))) := gNe_oi a (some b)
@[simp] theorem gEq_int_oi (a : Int) (b : Option Int) : gEq (.int a) (oi b) = some (.val (.bl (decide (some a = b)))) := gEq_oi (some a) b
@[simp] theorem gNe_int_oi (a : Int) (b : Option Int) : gNe (.int a) (oi b) = some (.val (.bl (!decide (some a = b)))) := gNe_oi (some a) b
@[simp] theorem gEq_non_oi (b : Option Int) : gEq .non (oi b) = some (.val (.bl (decide (none = b)))) := gEq_oi none b
@[simp] theorem gNe_non_oi (b : Option Int) : gNe .non (oi b) = some (.val (.bl (!decide (none = b)))) := gNe_oi none b
@[simp] theorem gEq_oi_non (b : Option Int) : gEq (oi b) .non = some (.val (.bl (decide (b = none)))) := gEq_oi b none
@[simp] theorem gNe_oi_non (b : Option Int) : gNe (oi b) .non = some (.val (.bl (!decide (b = none)))) := gNe_oi b none
@[simp] theorem gEq_non_non : gEq .non .non = some (.val (.bl true)) := gEq_oi none none
@[simp] theorem gNe_non_non : gNe .non .non = some (.val (.bl false)) := gNe_oi none none
@[simp] theorem gEq_non_int (i : Int) : gEq .non (.int i) = some (.val (.bl false)) := gEq_oi none (some i)
@[simp] theorem gNe_non_int (i : Int) : gNe .non (.int i) = some (.val (.bl true)) := gNe_oi none (some i)
@[simp] theorem gEq_int_non (i : Int) : gEq (.int i) .non = some (.val (.bl false)) := gEq_oi (some i) none
@[simp] theorem gNe_int_non (i : Int) : gNe (.int i) .non = some (.val (.bl true)) := gNe_oi (some i) none
theorem gMax_ints {l : List Int} (h : l ≠ []) : gMax [.lst (l.map Val.int)] = some (.val (.int (maxI l))) := by
  cases l with
  | nil => exact absurd rfl h
  | cons a l =>
    have e := intsOf_map (a :: l)
    unfold gMax
    simp only [lstOf]
    rw [e]
end Eg
namespace Eg
theorem ord_cons {r : Rw} {rows : List Rw} : OrdR (r :: rows) ↔ (∀ a ∈ rows, leO r.2.1 a.1) ∧ spO r.1 r.2.1 ∧ OrdR rows := by
  unfold OrdR
  rw [List.pairwise_cons]
  constructor
  · rintro ⟨⟨h1, h2⟩, h3⟩
    exact ⟨h1, h3 r List.mem_cons_self, h2, fun a m => h3 a (List.mem_cons_of_mem _ m)⟩
  · rintro ⟨h1, h2, h3, h4⟩
    exact ⟨⟨h1, h3⟩, fun a m => (List.mem_cons.mp m).elim (fun e => e ▸ h2) (h4 a)⟩
theorem wf_cons {r : Pc} {rows : List Pc} : WF (r :: rows) ↔ (∀ a ∈ rows, Lk r a) ∧ spO r.1 r.2.1 ∧ WF rows := by
  unfold WF
  rw [List.pairwise_cons]
  constructor
  · rintro ⟨⟨h1, h2⟩, h3⟩
    exact ⟨h1, h3 r List.mem_cons_self, h2, fun a m => h3 a (List.mem_cons_of_mem _ m)⟩
  · rintro ⟨h1, h2, h3, h4⟩
    exact ⟨⟨h1, h3⟩, fun a m => (List.mem_cons.mp m).elim (fun e => e ▸ h2) (h4 a)⟩
theorem spO_none_l (h : OI) : spO none h := by cases h <;> trivial
theorem spO_none_r (h : OI) : spO h none := by cases h <;> trivial
theorem ord_open_lo {r1 r2 : OI} {r3 : OI} {rows : List Rw} (h : OrdR ((r1, r2, r3) :: rows)) : OrdR ((none, r2, r3) :: rows) := by
  obtain ⟨h1, h2, h3⟩ := ord_cons.mp h
  exact ord_cons.mpr ⟨h1, spO_none_l _, h3⟩
theorem ord_open_hi {r1 r2 : OI} {r3 : OI} {rows : List Rw} (h : OrdR (rows ++ [(r1, r2, r3)])) : OrdR (rows ++ [(r1, none, r3)]) := by
  obtain ⟨h1, h2, h3⟩ := ord_snoc.mp h
  exact ord_snoc.mpr ⟨h1, h2, spO_none_r _⟩
theorem wf_open_lo {r1 r2 : OI} {r3 : Int} {rows : List Pc} (h : WF ((r1, r2, r3) :: rows)) : WF ((none, r2, r3) :: rows) := by
  obtain ⟨h1, h2, h3⟩ := wf_cons.mp h
  exact wf_cons.mpr ⟨h1, spO_none_l _, h3⟩
theorem wf_open_hi {r1 r2 : OI} {r3 : Int} {rows : List Pc} (h : WF (rows ++ [(r1, r2, r3)])) : WF (rows ++ [(r1, none, r3)]) := by
  obtain ⟨h1, h2, h3⟩ := wf_snoc.mp h
  exact wf_snoc.mpr ⟨h1, h2, spO_none_r _⟩
end Eg
namespace Eg
/-! ### looking for a place -/
theorem val_none_of {rows : List Rw} {p : Int} (h : ∀ r ∈ rows, inS r.1 r.2.1 p = false) : val rows p = none := by
  have := val_append_none (b := rows) [] h
  simpa using this
theorem lk_out {a b : Pc} {p : Int} (h : Lk a b) (sa : spO a.1 a.2.1) (ha : inS a.1 a.2.1 p = true) : inS b.1 b.2.1 p = false := by
  have := h.le
  obtain ⟨a1, a2, a3⟩ := a
  obtain ⟨b1, b2, b3⟩ := b
  cases a2 <;> cases b1 <;> simp [leO] at this
  cases a1 <;> cases b2 <;> simp at ha ⊢ <;> omega
theorem vl_cons {r : Pc} {m : List Pc} (w : WF (r :: m)) (p : Int) : vl (r :: m) p = if inS r.1 r.2.1 p = true then some r.2.2 else vl m p := by
  obtain ⟨h1, h2, h3⟩ := wf_cons.mp w
  unfold vl
  rw [List.map_cons]
  have e := foldl_val (m.map rwOf) (if inS (rwOf r).1 (rwOf r).2.1 p = true then (rwOf r).2.2 else none) p
  show List.foldl _ _ (m.map rwOf) = _
  rw [e]
  by_cases c : inS r.1 r.2.1 p = true
  · have : (m.map rwOf).any (fun r => inS r.1 r.2.1 p) = false := by
      rw [List.any_eq_false]
      intro x hx
      obtain ⟨y, hy, rfl⟩ := List.mem_map.mp hx
      have := lk_out (h1 y hy) h2 c
      simpa [rwOf] using this
    rw [this, if_neg Bool.false_ne_true, if_pos c]
    show (if inS r.1 r.2.1 p = true then _ else _) = _
    rw [if_pos c]
    rfl
  · rw [if_neg c]
    show (if _ then val (m.map rwOf) p else if inS r.1 r.2.1 p = true then _ else none) = _
    rw [if_neg c]
    by_cases d : (m.map rwOf).any (fun r => inS r.1 r.2.1 p) = true
    · rw [if_pos d]
    · rw [if_neg d]
      symm
      apply val_none_of
      intro x hx
      have d' : (m.map rwOf).any (fun r => inS r.1 r.2.1 p) = false := Bool.eq_false_iff.mpr d
      exact Bool.eq_false_iff.mpr (List.any_eq_false.mp d' x hx)
/-- begins at a place or ahead of it -/
def bgn (p : Int) (r : Pc) : Bool := match r.1 with
  | none => true
  | some l => decide (l ≤ p)
def lookM (p : Int) : OI → List Pc → OI × OI × OI
  | b, [] => (none, b, none)
  | b, r :: m => if bgn p r = false then (none, b, r.1) else if (match r.2.1 with | none => true | some h => decide (p < h)) = true then (some r.2.2, r.1, r.2.1) else lookM p r.2.1 m
def hiB (p : Int) (r : Pc) : Bool := match r.2.1 with
  | none => true
  | some h => decide (p < h)
theorem inS_bh (p : Int) (r : Pc) : inS r.1 r.2.1 p = (bgn p r && hiB p r) := by
  obtain ⟨a, b, c⟩ := r
  cases a <;> cases b <;> simp [bgn, hiB]
theorem lookM_val {p : Int} : ∀ {m : List Pc} {b : OI}, WF m → (lookM p b m).1 = vl m p
  | [], b, _ => rfl
  | r :: m, b, w => by
    rw [vl_cons w, inS_bh]
    obtain ⟨h1, h2, h3⟩ := wf_cons.mp w
    unfold lookM
    cases c : bgn p r with
    | false =>
      simp only [if_true, Bool.false_and, Bool.false_eq_true, if_false]
      symm
      unfold vl
      apply val_none_of
      intro x hx
      obtain ⟨y, hy, rfl⟩ := List.mem_map.mp hx
      have := (h1 y hy).le
      obtain ⟨a1, a2, a3⟩ := r
      obtain ⟨b1, b2, b3⟩ := y
      cases a1 <;> simp [bgn] at c
      cases a2 <;> cases b1 <;> simp [leO] at this
      cases b2 <;> simp [rwOf, spO] at h2 ⊢ <;> omega
    | true =>
      rw [if_neg (by simp)]
      show (if hiB p r = true then _ else _ : OI × OI × OI).1 = _
      cases d : hiB p r with
      | true => simp
      | false =>
        simp only [Bool.false_eq_true, if_false, Bool.and_false]
        exact lookM_val h3
/-- what is told where the first k pieces begin at the place or ahead of it -/
def outK (p : Int) (b : OI) (m : List Pc) : Nat → OI × OI × OI
  | 0 => (none, b, (m[0]?).bind (·.1))
  | k + 1 => match m[k]? with
    | some r => if hiB p r = true then (some r.2.2, r.1, r.2.1) else (none, r.2.1, (m[k + 1]?).bind (·.1))
    | none => (none, none, none)
theorem look_out {p : Int} : ∀ {m : List Pc} {b : OI} {k : Nat}, WF m → k ≤ m.length → (∀ i r, i < k → m[i]? = some r → bgn p r = true) → (∀ i r, k ≤ i → m[i]? = some r → bgn p r = false) → lookM p b m = outK p b m k
  | [], b, k, _, hk, _, _ => by
    cases k with
    | zero => rfl
    | succ k => simp at hk
  | r :: m, b, 0, w, hk, h1, h2 => by
    have c := h2 0 r (Nat.le_refl _) rfl
    unfold lookM
    rw [if_pos c]
    rfl
  | r :: m, b, k + 1, w, hk, h1, h2 => by
    have c := h1 0 r (Nat.succ_pos _) rfl
    obtain ⟨w1, w2, w3⟩ := wf_cons.mp w
    unfold lookM
    rw [if_neg (by rw [c]; simp)]
    show (if hiB p r = true then _ else _) = _
    by_cases d : hiB p r = true
    · rw [if_pos d]
      have hk0 : k = 0 := by
        apply Classical.byContradiction
        intro hne
        have hlt : k - 1 < m.length := by rw [List.length_cons] at hk; omega
        have c2 := h1 k m[k - 1] (Nat.lt_succ_self k) (by
          have e : (r :: m)[k]? = m[k - 1]? := by
            cases k with
            | zero => exact absurd rfl hne
            | succ k => simp
          rw [e]
          exact List.getElem?_eq_getElem (by omega))
        have := (w1 m[k - 1] (List.getElem_mem _)).le
        revert c2 this
        generalize m[k - 1] = y
        intro c2 this
        obtain ⟨a1, a2, a3⟩ := r
        obtain ⟨b1, b2, b3⟩ := y
        cases a2 <;> cases b1 <;> simp [leO] at this
        simp [hiB] at d
        simp [bgn] at c2
        omega
      subst hk0
      show _ = outK p b (r :: m) 1
      simp [outK, d]
    · rw [if_neg d]
      have ih := look_out (m := m) (b := r.2.1) (k := k) w3 (by rw [List.length_cons] at hk; omega) (fun i x hi e => h1 (i + 1) x (by omega) (by simpa using e)) (fun i x hi e => h2 (i + 1) x (by omega) (by simpa using e))
      rw [ih]
      cases k with
      | zero => simp [outK, d]
      | succ k => simp [outK]
theorem bgn_mono {m : List Pc} (w : WF m) {p : Int} {i j : Nat} {a b : Pc} (hij : i ≤ j) (ea : m[i]? = some a) (eb : m[j]? = some b) (h : bgn p b = true) : bgn p a = true := by
  rcases Nat.lt_or_eq_of_le hij with hij | rfl
  · have l := (wf_lk w hij ea eb).le
    have s := wf_sp w ea
    obtain ⟨a1, a2, a3⟩ := a
    obtain ⟨b1, b2, b3⟩ := b
    cases a2 <;> cases b1 <;> simp [leO] at l
    cases a1 <;> simp [bgn, spO] at h s ⊢
    omega
  · rw [ea] at eb
    cases eb
    exact h
end Eg
namespace Eg
open PySem L2
theorem lk_trans {a l r : Pc} (h1 : Lk a l) (s : spO l.1 l.2.1) (h2 : Lk l r) : Lk a r := .inl (spO_trans_lt h1.le s h2.le)
theorem wf_push {m : List Pc} {r : Pc} (w : WF m) (h : ∀ l, m.getLast? = some l → Lk l r) (s : spO r.1 r.2.1) : WF (m ++ [r]) := by
  refine wf_snoc.mpr ⟨w, fun a ha => ?_, s⟩
  rcases List.eq_nil_or_concat m with rfl | ⟨fs, l, rfl⟩
  · simp at ha
  · rw [List.concat_eq_append] at *
    have hl := h l (by simp)
    obtain ⟨wf, wl, sl⟩ := wf_snoc.mp w
    rcases List.mem_append.mp ha with ha | ha
    · exact lk_trans (wl a ha) sl hl
    · rw [List.mem_singleton.mp ha]; exact hl
/-- range(2, min(L - 1, B), 2) -/
theorem rng_step2g (L B : Nat) (hB : B ≤ 200) (c : Bool) (hc : c = decide ((B : Int) < (L : Int) - 1)) : ∃ n : Nat, n ≤ 100 ∧ 2 * n ≤ B ∧ (∀ k : Nat, k < n → 2 + 2 * k + 1 < L ∧ 2 + 2 * k < B) ∧ gRng3 [.int 2, .int (if c = true then (B : Int) else (L : Int) - 1), .int 2] = some ((List.range n).map fun k : Nat => Val.int (2 + k * 2)) := by
  have key : ∀ M : Int, -1 ≤ M → M ≤ B → M ≤ (L : Int) - 1 → ∃ n : Nat, n ≤ 100 ∧ 2 * n ≤ B ∧ (∀ k : Nat, k < n → 2 + 2 * k + 1 < L ∧ 2 + 2 * k < B) ∧ gRng3 [.int 2, .int M, .int 2] = some ((List.range n).map fun k : Nat => Val.int (2 + k * 2)) := by
    intro M h1 h2 h3
    refine ⟨(Builtin.Range.rangeSize 2 M 2).toNat, ?_, ?_, ?_, ?_⟩
    · unfold Builtin.Range.rangeSize
      rw [if_pos (by decide)]
      split <;> omega
    · unfold Builtin.Range.rangeSize
      rw [if_pos (by decide)]
      split <;> omega
    · intro k hk
      unfold Builtin.Range.rangeSize at hk
      rw [if_pos (by decide)] at hk
      split at hk <;> omega
    · have hs : Builtin.Range.small 2 M 2 = true := by
        have all : ∀ l : Fin 202, Builtin.Range.small 2 ((l.val : Int) - 1) 2 = true := by decide +kernel
        have := all ⟨(M + 1).toNat, by omega⟩
        rwa [show (((M + 1).toNat : Nat) : Int) - 1 = M by omega] at this
      have h0 : 0 ≤ Builtin.Range.rangeSize 2 M 2 := by
        unfold Builtin.Range.rangeSize
        rw [if_pos (by decide)]
        split <;> omega
      have ok : rgOk3 2 M 2 = true := cB_of ⟨by decide, by decide, hs, h0⟩
      simp only [gRng3, ok, if_true]
      rw [rgC_map]
  subst hc
  by_cases d : (B : Int) < (L : Int) - 1
  · rw [if_pos (by simpa using d)]
    exact key _ (by omega) (by omega) (by omega)
  · rw [if_neg (by simpa using d)]
    exact key _ (by omega) (by omega) (by omega)
end Eg

namespace Eg
open PySem L2
/-! ### a, b = e, f -/
section
variable {Z : Stc} {X : Cx} {W : WX}
theorem ms_par {i j : Nat} {x y : Str} {a b : Expr} {da db : DP} {px py pt pos : Pos} {kt k2 pt2} (hc : X.calm = true) (hN : X.N.Nodup) (hi : X.N[i]? = some x) (hj : X.N[j]? = some y) (hij : i ≠ j)
    (hx : X.env.scope.names.lookup x = some .local) (hy : X.env.scope.names.lookup y = some .local) (ha : MVs Z X W [a, b] (dVals [da, db]))
    (hw : swappedStores [.Tuple [.Name x px, .Name y py] kt pt] (.Tuple [a, b] k2 pt2) X.env = pure (some [x, y]) := by rfl)
    (hs : swapsWithSole [.Tuple [.Name x px, .Name y py] kt pt] (.Tuple [a, b] k2 pt2) pos.line X.env = pure false := by rfl) :
    MS Z X W (.Assign [.Tuple [.Name x px, .Name y py] kt pt] (.Tuple [a, b] k2 pt2) pos) (dPar i j da db) := by
  obtain ⟨t, h1, h2⟩ := ha
  refine ⟨_, ps_par hc hN hi hj hij hx hy h1 hw hs, fun S σ H env st D r p => h2 S σ H env st _ r ?_⟩
  simp only [dPar] at p
  cases ea : da env st with
  | bad => simp only [ea, dExpS, PostS] at p
  | exc c fs st1 =>
    simp only [ea, dExpS, PostS] at p
    simp only [dVals, ea, Out.bind, Post]
    exact fun cls dd S' H' e1 w1 s1 x1 => p cls dd S' σ H' (e1.toS env σ) (r.ext e1 w1 s1) x1
  | ok v st1 =>
    simp only [ea, dExpS] at p
    cases eb : db env st1 with
    | bad => simp only [eb, PostS] at p
    | exc c fs st2 =>
      simp only [eb, PostS] at p
      simp only [dVals, ea, eb, Out.bind, Post]
      exact fun cls dd S' H' e1 w1 s1 x1 => p cls dd S' σ H' (e1.toS env σ) (r.ext e1 w1 s1) x1
    | ok w st2 =>
      simp only [eb] at p
      simp only [dVals, ea, eb, Out.bind, Post]
      intro xs S1 H1 e1 w1 s1 q
      obtain ⟨u1, r1, rfl, q1, q2⟩ := repL_uncons q
      obtain ⟨u2, r2, rfl, q3, q4⟩ := repL_uncons q2
      simp only [RepL] at q4
      subst q4
      refine ⟨u1, u2, rfl, ?_⟩
      split at p
      · rename_i hl
        have r1 := r.ext e1 w1 s1
        have ra := SR.set (s := .val v) r1 hl.1 q1 (fun z => by cases z)
        have rb := SR.set (s := .val w) ra (i := j) (x := u2) (by rw [List.length_set]; exact hl.2) q3 (fun z => by cases z)
        refine p S1 _ H1 ?_ rb
        have e2 : ExtS S H env σ S1 H1 env σ := e1.toS env σ
        have e3 := e2.set (i := i) (s := .val v) (x := u1) (fun z => by cases z) (fun z => by cases z)
        exact e3.set (i := j) (s := .val w) (x := u2) (fun z => by cases z) (fun z => by cases z)
      · exact p.elim
/-! ### for x in reversed(l) -/
theorem gives_rev {K : PySem.W.Frag} {S : Gh} {H : Hp} {env : Evn} {σ : St} {a : Addr} {xs : List V} {vs : List Val} (h : ∀ S2 H2, Fr S H env σ H2 → Mon S S2 → Wf S2 H2 → SqL K H2 a xs) (r : RepL K Z S vs xs) : Gives K Z S H env σ (Itv K a xs.length) vs.reverse := by
  intro i S2 H2 f m w2
  have h2 := h S2 H2 f m w2
  have hl := repL_length r
  refine ⟨fun z => by rw [List.length_reverse, hl] at z; exact z, fun v hv => ?_⟩
  have hi : i < vs.length := by
    have := (List.getElem?_eq_some_iff.mp hv).1
    rwa [List.length_reverse] at this
  rw [List.getElem?_reverse hi] at hv
  obtain ⟨x, k1, k2⟩ := repL_get r hv
  rw [hl] at k1
  refine ⟨⟨by omega, xs, x, h2, k1⟩, fun y H3 hy => ?_⟩
  obtain ⟨rfl, hy⟩ := hy
  have := hy xs h2
  rw [k1] at this
  cases this
  exact ⟨S2, ExtP.refl w2, Rep.mono m _ _ k2⟩
@[simp] def dItemsR (i : Nat) : DI := fun env st => match env[i]? with
  | some (some (.val (.lst vs))) => .ok vs.reverse st
  | some (some (.brw vs)) => .ok vs.reverse st
  | _ => .bad
theorem mi_rev {tg : Expr} {x : Str} {p p2 pos : Pos} (i : Nat) (h : PE X (.Name x p) (tVar i)) (hm : X.mg "reversed" = none) (hg : Gl X "reversed" := by rfl) (hs : starEach [.Name x p] X.env = [(false, eval (.Name x p) X.env)] := by rfl) : MI Z X W tg (.Call (.Name "reversed" p2) [.Name x p] [] pos) (dItemsR i) := by
  refine ⟨_, pi_reversed hg hm (pa_cons h pa_nil) hs, fun S σ H env st R r po => ?_⟩
  unfold dItemsR at po
  split at po
  · rename_i vs ei
    obtain ⟨x, h1, h2⟩ := r.sl i _ ei
    simp only [SlR, Rep] at h2
    obtain ⟨a, xs, rfl, g, rl⟩ := h2
    refine ⟨_, h1, a, xs, rfl, .inl (.inl (r.wf.same _ _ g)), ?_⟩
    exact po _ S H (Ext.refl S H) r.wf r.str (gives_rev (fun S2 H2 f m w2 => .inl (.inl (w2.same _ _ (m.sg _ _ g)))) rl)
  · rename_i vs ei
    obtain ⟨x, h1, h2⟩ := r.sl i _ ei
    obtain ⟨l, xs, rfl, hl, hr⟩ := h2
    have no := brw_not_own r ei rfl rfl h1
    refine ⟨_, h1, l, xs, rfl, .inl (.inl hl.h), ?_⟩
    exact po _ S H (Ext.refl S H) r.wf r.str (gives_rev (fun S2 H2 f m w2 => .inl (.inl (f _ _ hl.h (kp_of hl.m) no))) hr)
  · exact po.elim
/-! ### sorted(ints) -/
end
def insI (a : Int) : List Int → List Int
  | [] => [a]
  | b :: l => if a ≤ b then a :: b :: l else b :: insI a l
def sortI : List Int → List Int
  | [] => []
  | a :: l => insI a (sortI l)
theorem insI_perm (a : Int) : ∀ l, (insI a l).Perm (a :: l)
  | [] => .refl _
  | b :: l => by
    unfold insI
    split
    · exact .refl _
    · exact ((insI_perm a l).cons b).trans (.swap a b l)
theorem sortI_perm : ∀ l, (sortI l).Perm l
  | [] => .refl _
  | a :: l => (insI_perm a _).trans ((sortI_perm l).cons a)
theorem insI_pw (a : Int) : ∀ l, l.Pairwise (· ≤ ·) → (insI a l).Pairwise (· ≤ ·)
  | [], _ => by simp [insI]
  | b :: l, h => by
    obtain ⟨h1, h2⟩ := List.pairwise_cons.mp h
    unfold insI
    split
    · refine List.pairwise_cons.mpr ⟨fun x hx => ?_, h⟩
      rcases List.mem_cons.mp hx with rfl | hx
      · assumption
      · have := h1 x hx
        omega
    · refine List.pairwise_cons.mpr ⟨fun x hx => ?_, insI_pw a l h2⟩
      rcases List.mem_cons.mp ((insI_perm a l).mem_iff.mp hx) with rfl | hx
      · omega
      · exact h1 x hx
theorem sortI_pw : ∀ l, (sortI l).Pairwise (· ≤ ·)
  | [] => List.Pairwise.nil
  | a :: l => insI_pw a _ (sortI_pw l)
theorem sorted_uniq : ∀ {l l' : List Int}, l.Perm l' → l.Pairwise (· ≤ ·) → l'.Pairwise (· ≤ ·) → l = l'
  | [], l', p, _, _ => (List.nil_perm.mp p).symm
  | a :: l, [], p, _, _ => by cases List.perm_nil.mp p
  | a :: l, b :: l', p, h, h' => by
    obtain ⟨h1, h2⟩ := List.pairwise_cons.mp h
    obtain ⟨h3, h4⟩ := List.pairwise_cons.mp h'
    have hab : a = b := by
      have ha : a ∈ b :: l' := p.mem_iff.mp List.mem_cons_self
      have hb : b ∈ a :: l := p.mem_iff.mpr List.mem_cons_self
      rcases List.mem_cons.mp ha with e | ha
      · exact e
      · rcases List.mem_cons.mp hb with e | hb
        · exact e.symm
        · have := h1 b hb
          have := h3 a ha
          omega
    subst hab
    rw [sorted_uniq ((List.perm_cons a).mp p) h2 h4]
@[simp] def gSorted : List Val → Option R
  | [v] => match lstOf v with
    | some vs => match intsOf vs with
      | some ns => some (.own ((sortI ns).map Val.int))
      | none => none
    | none => none
  | _ => none
section
variable {Z : Stc} {X : Cx}
theorem cs_sorted : CallR X (.builtin "sorted") (rC X.K Z gSorted) := by
  intro pins s σ H xs us Q I rs ⟨S, vs, r, w, pr, eg, q⟩
  unfold gSorted at eg
  split at eg
  · split at eg
    · rename_i ws e
      split at eg
      · rename_i ns e2
        cases eg
        obtain ⟨x, rfl, p1⟩ := prep1 pr
        obtain ⟨a, ys, rfl, hs, r1⟩ := lst_rep w p1 e
        have ey := repL_intsOf r1 e2
        subst ey
        refine cr_sortedI pins s σ H _ us Q I rs ⟨a, ns, rfl, hs, fun ns' p h1 h2 hp => ?_⟩
        have e3 : ns' = sortI ns := sorted_uniq (h1.trans (sortI_perm ns).symm) h2 (sortI_pw ns)
        subst e3
        exact q_own w q (repL_ints (fun _ => rfl) _) p hp
      · cases eg
    · cases eg
  · cases eg
end
end Eg

/-! set(list of ints), sorted(set) of any size. -/
namespace Eg
open PySem L2 PyProof.Rows
section
variable {PP : Program} {ww : World} {AA : Around} {EE : Value → Shared → Prop} {ss : Shared}
def newSetOb (ww : World) : Obj := { cls := .type "set", dict := none, data := .set #[] 0 (.fresh 0 0 (!ww.params.followText "set-order")) }
set_option maxHeartbeats 6400000 in
theorem set_of_list {lx : Addr} {arr : Array Value} (zs : List Int) {QQ : Value → Shared → Prop} (hno : AA.handled = none) (hL : ss.heap.IsList lx arr) (hints : IntsAre arr.toList zs) (hfew : zs.length + 1 < scanBound)
    (fin : ∀ (g : Heap) (tk c : Nat), SetR ww g ss.heap.objs.size (fun j => decide (j ∈ zs)) c → c ≤ zs.length → (∀ b o, ss.heap.get? b = some o → g.get? b = some o) → QQ (.ref ss.heap.objs.size) { ss with heap := g, toks := tk }) :
    wpAny (model PP ww) AA (call (.type "set") [.ref lx]) QQ EE ss := by
  have asz : arr.size = zs.length := by
    have z := IntsAre.length hints
    rwa [Array.length_toList] at z
  obtain ⟨cc, tll, hm⟩ := F.called_set.mro
  have hmk := F.called_set.made
  have hsb := F.called_set.sub
  refine wpAny_call (codeAny_of_tree ?_)
  show wpAny _ _ (callAny (.type "set") _) _ _ ss
  refine wpAny_pure ⟨Code.quiet_builtin _ (by decide +kernel),
    codeAny_builtin F.entry_type_call ?_⟩
  rw [Around.under_plain (weight_type_call_type "set" [.ref lx] []) (by rfl)]
  have n1 := F.called_set.notType
  have n2 := F.called_set.canCreate
  have n3 := F.typeCall_set_1 (.ref lx)
  repeat (any_goals first | assumption | wp_step)
  refine codeAny_mono (code_set_led1 (.ref lx) (E := EE) (Q₁ := fun ob s1 => ob = .ref ss.heap.objs.size ∧ s1 = { ss with heap := ss.heap.push (newSetOb ww) }) ⟨rfl, rfl⟩) fun rr s1 hrr => ?_
  cases rr with
  | error e => exact hrr
  | ok fl =>
    cases fl with
    | ret ob =>
      obtain ⟨rfl, rfl⟩ := hrr
      have hob : (ss.heap.push (newSetOb ww)).get? ss.heap.objs.size = some (newSetOb ww) := Heap.get?_push_size _ rfl
      have hty : Shared.TypeIs { ss with heap := ss.heap.push (newSetOb ww) } (.ref ss.heap.objs.size) "set" := ⟨_, hob, rfl⟩
      have n4 := F.called_set.init.lookup
      have n5 := F.called_set.init.bind (.ref ss.heap.objs.size)
      repeat (any_goals first | assumption | wp_step)
      refine codeAny_mono (codeAny_call_builtin (R := wants (fun r s2 => r = .none ∧ ∃ g tk c, s2 = { ss with heap := g, toks := tk } ∧ SetR ww g ss.heap.objs.size (fun j => decide (j ∈ zs)) c ∧ c ≤ zs.length ∧
          (∀ b o, ss.heap.get? b = some o → g.get? b = some o)) EE) F.called_set.init.plain F.entry_set_init (check_set_init_1 hty ?_)) fun r2 s2 hr2 => ?_
      · obtain ⟨ol, hol, hcl, nl, hdl⟩ := hL
        obtain ⟨oc, od, odt, os⟩ := ol
        simp only at hcl hdl
        subst hcl
        subst hdl
        have hol2 : (ss.heap.push (newSetOb ww)).get? lx = some { cls := .type "list", dict := od, data := .seq arr nl, slots := os } := Heap.get?_push_of_some _ hol
        have m1 := F.sub_list_set
        have m2 := F.sub_list_frozenset
        have m3 : (Value.type "list" == Value.type "dict") = false := by decide
        have hL1 : (ss.heap.push (newSetOb ww)).IsList lx arr := ⟨_, hol2, rfl, nl, rfl⟩
        unfold Builtin.«set.__init__» noKeywords Builtin.Frozenset.updateFrom
        generalize hit : pyIter = pit
        wp_walk
        subst hit
        refine wpAny_pyIter_list hL1 ?_
        refine wpAny_bind (wpAny_runValue ?_)
        have hlt : lx < ss.heap.objs.size := Heap.lt_size hol
        have hno3 : AA.in1.in1.in1.handled = none := by simp [hno]
        have hpz : (ss.heap.push (newSetOb ww)).objs.size = ss.heap.objs.size + 1 := Heap.size_push ..
        have hne : lx ≠ (ss.heap.push (newSetOb ww)).objs.size := by
          rw [Heap.size_push]
          exact Nat.ne_of_lt (Nat.lt_succ_of_lt hlt)
        have hout : ss.heap.objs.size ∉ [(ss.heap.push (newSetOb ww)).objs.size, lx] := by
          rw [Heap.size_push]
          simp only [List.mem_cons, List.mem_singleton, List.not_mem_nil, or_false, not_or]
          exact ⟨Nat.ne_of_lt (Nat.lt_succ_self _), Nat.ne_of_gt hlt⟩
        have hvals : ∀ (i : Nat) (v : Value), arr[i]? = some v → ∃ k t, zs[i]? = some k ∧ v = .int k t := fun i v hv => by
          have hi : i < zs.length := by
            rw [← asz]
            exact (Array.getElem?_eq_some_iff.mp hv).1
          obtain ⟨t, e⟩ := PyProof.Rows.IntsAre.int_at hints i v (by rw [Array.getElem?_toList]; exact hv)
          refine ⟨zs[i], t, List.getElem?_eq_getElem hi, ?_⟩
          rw [e, List.getD_eq_getElem?_getD, List.getElem?_eq_getElem hi]
          rfl
        refine set_update_ints ((Walks.list hno3 _ lx hne arr).toS) ss.heap.objs.size
          hout zs asz hfew hvals (arr.size - 0) 0 _ (by omega) (Nat.zero_le _) ⟨⟨_, Heap.get?_push_size _ rfl, rfl, rfl⟩, (hL1.push _)⟩ ?start ?stop
        case start =>
          exact ⟨0, Nat.le_refl 0, setR_new_at (Heap.get?_push_of_some _ hob)⟩
        case stop =>
          intro s3 c3 hmv hc3 hS3
          obtain ⟨g3, gs3, d3, tk3, os3⟩ := s3
          have e1 : gs3 = ss.gens := hmv.gens
          have e2 : d3 = ss.drawn := hmv.drawn
          have e3 : os3 = ss.os := hmv.os
          subst e1
          subst e2
          subst e3
          show wpAny _ _ _ _ _ _
          refine wpAny_pure ?_
          show wpAny _ _ (ret Value.none) _ _ _
          rw [asz] at hc3
          refine wpAny_pure ⟨rfl, g3, tk3, c3, rfl, hS3, hc3, fun b o e => ?_⟩
          have b0 : b < ss.heap.objs.size := Heap.lt_size e
          have b1 : b ≠ ss.heap.objs.size := Nat.ne_of_lt b0
          have b2 : b ≠ (ss.heap.push (newSetOb ww)).objs.size := by
            rw [Heap.size_push]
            exact Nat.ne_of_lt (Nat.lt_succ_of_lt b0)
          exact hmv.heap b o (by simp only [List.mem_cons, List.mem_singleton, List.not_mem_nil, or_false, not_or]; exact ⟨b1, b2⟩) (Heap.get?_push_of_some _ (Heap.get?_push_of_some _ e))
      · cases r2 with
        | error e => exact hr2
        | ok fl2 =>
          cases fl2 with
          | ret r =>
            obtain ⟨rfl, g, tk, c, rfl, k1, k2, k3⟩ := hr2
            repeat (any_goals first | assumption | wp_step)
            exact fin _ _ _ k1 k2 k3
          | _ => exact hr2.elim
    | _ => exact hrr.elim
theorem lt_of_le_nd : ∀ {l : List Int}, l.Pairwise (· ≤ ·) → l.Nodup → l.Pairwise (· < ·)
  | [], _, _ => List.Pairwise.nil
  | a :: l, h, n => by
    obtain ⟨h1, h2⟩ := List.pairwise_cons.mp h
    obtain ⟨n1, n2⟩ := List.pairwise_cons.mp n
    refine List.pairwise_cons.mpr ⟨fun b m => ?_, lt_of_le_nd h2 n2⟩
    have := h1 b m
    have := n1 b m
    omega
theorem sorted_any {SS : Int → Bool} {nn : Nat} {a : Addr} {QQ : Value → Shared → Prop} (RR : SetR ww ss.heap a SS nn) (hno : AA.handled = none)
    (fin : ∀ s' p (out : Array Value) (c : Nat) (ks : List Int), (∀ b o, ss.heap.get? b = some o → s'.heap.get? b = some o) → s'.gens = ss.gens → s'.os = ss.os → ss.heap.objs.size ≤ p →
      s'.heap.get? p = some (seqObj "list" out c) → IntsAre out.toList ks → ks.Pairwise (· < ·) → (∀ k, k ∈ ks ↔ SS k = true) → ks.length = nn → QQ (.ref p) s') :
    wpAny (model PP ww) AA (call (.builtin "sorted") [.ref a]) QQ EE ss := by
  obtain ⟨ob, ents, ep, tb, hob, hx, hd, good, nd, mem, few, fits, cnt, ris, led⟩ := RR
  refine Calls.call_function_entry kind_sorted plain_sorted entry_sorted (args_sorted1 (.ref a)) ?_
  unfold Builtin.«sorted»
  refine wpAny_bind (m := checkCount "sorted" 1 1 _) (wpAny_pure (by
    refine wpAny_bind (collect_set (A := AA.in1) hno ⟨ob, hob, hx.1, hd⟩ fits few ris led fun s1 vs k1 hz g1 o1 pm => ?_)
    have hvl : vs.length = nn := by
      rw [pm.length_eq, List.length_map, Array.length_toList]
      exact cnt
    have hI : IntsAre vs (vs.map Builtin.Re.reRawOf) := ints_of vs fun v hv => by
      obtain ⟨e, he, q⟩ := List.mem_map.mp (pm.mem_iff.mp hv)
      obtain ⟨k, tk, h1, _⟩ := good e he
      exact ⟨k, tk, q ▸ h1⟩
    have pk : (vs.map Builtin.Re.reRawOf).Perm (ents.toList.map keyOf) := by
      have z := pm.map Builtin.Re.reRawOf
      rwa [List.map_map] at z
    have hsz : vs.length ≤ sizeLine := by
      have : ents.size < 4096 := few
      show vs.length ≤ 16777216
      omega
    refine wpAny_bind (wpAny_newList ?_ hsz)
    have hoL : (s1.heap.push (seqObj "list" vs.toArray 0)).get? s1.heap.objs.size = some (seqObj "list" vs.toArray 0) := Heap.get?_push_size _ (by rfl)
    refine wpAny_bind (wpAny_holding (wpAny_call_entry slot_list_sort ⟨_, hoL, rfl⟩ entry_list_sort (list_sort_treeAny hoL hI hsz fun out ks a1 a2 a3 => ⟨_, rfl, ?_⟩) (args_list_sort _)))
    obtain ⟨c, hc⟩ := sortedHeap_at (vs := vs) (out := out) hoL
    have pn : ks.Perm (ents.toList.map keyOf) := a2.trans pk
    refine wpAny_pure ⟨_, rfl, fin _ s1.heap.objs.size out c ks (fun b u e => ?_) g1 o1 hz hc a1 (lt_of_le_nd a3 (pn.nodup_iff.mpr nd)) (fun k => by rw [pn.mem_iff, ← mem k]) ?_⟩
    · have q := k1 b u e
      have hlt := Heap.lt_size q
      show (sortedHeap (s1.heap.push (seqObj "list" vs.toArray 0)) s1.heap.objs.size vs out).get? b = some u
      rw [sortedHeap_old (Nat.ne_of_lt hlt) (by rw [Heap.size_push]; exact Nat.lt_succ_of_lt hlt)]
      exact Heap.get?_push_of_some _ q
    · rw [pn.length_eq, List.length_map, Array.length_toList]
      exact cnt))
end
end Eg

namespace Eg
open PySem L2
def rSetI (K : PySem.W.Frag) (w : World) : List V → Hp → VK → Prop := fun xs H Q => ∃ (l : Addr) (ns : List Int), xs = [V.ref l] ∧ SqL K H l (ns.map V.int) ∧ ns.length + 1 < scanBound ∧ ∀ a c, H a = none → Q (.ref a) (upd H a (SetO w a (fun j => decide (j ∈ ns)) c))
def rSortA (w : World) : List V → Hp → VK → Prop := fun xs H Q => ∃ (a : Addr) (S : Int → Bool) (n : Nat), xs = [V.ref a] ∧ H a = some (SetO w a S n) ∧
  ∀ (ks : List Int) (p : Addr), ks.Pairwise (· < ·) → (∀ k : Int, k ∈ ks ↔ S k = true) → H p = none → Q (.ref p) (upd H p (.lst (ks.map V.int)))
section
variable {X : Cx}
theorem cr_setI (hc : X.calm = true) : CallR X (.type "set") (rSetI X.K X.w) := by
  intro pins s σ H vs us Q I r h
  obtain ⟨l, ns, rfl, hs, hf, q⟩ := h
  obtain ⟨its, rv, hl, hz⟩ := I.list hs
  rw [Vals.ref1 r]
  refine set_of_list ns (I.ok.hd hc) hl.isList (ints_of_vals rv) hf fun g tk c R hcn k => ?_
  exact ⟨.ref _, _, I.laid (t' := tk) k (Nat.le_refl _) (setO_new R), rfl, q _ c (I.hok.fresh (Nat.le_refl _))⟩
theorem cr_sortA (hc : X.calm = true) : CallR X (.builtin "sorted") (rSortA X.w) := by
  intro pins s σ H vs us Q I r h
  obtain ⟨a, S, n, rfl, ha, q⟩ := h
  have R := setO_get I ha
  rw [Vals.ref1 r]
  refine sorted_any R (I.ok.hd hc) fun s' p out c ks k g o hp hg hi hs hm hl => ?_
  have hlen : (ks.map V.int).length ≤ sizeLine := by
    rw [List.length_map, hl]
    obtain ⟨_, _, _, _, _, _, _, _, _, _, few, _, cnt, _⟩ := R
    have : n < 4096 := cnt ▸ few
    show n ≤ 16777216
    omega
  have hn : H p = none := I.hok.fresh hp
  have J : Inv X pins σ (upd H p (.lst (ks.map V.int))) { s with heap := s'.heap, gens := s'.gens, drawn := s'.drawn, toks := s'.toks } :=
    I.call (ch := []) (Un.laid k hp hn) (I.hok.laid k hp ⟨hlen, out.toList, c, vals_of_ints hi, hg⟩) (by rw [g]; exact I.bare) (fun _ z => (by cases z))
  have e : s' = { s with heap := s'.heap, gens := s'.gens, drawn := s'.drawn, toks := s'.toks } := by
    cases s'; cases s; cases o
    rfl
  rw [e]
  exact ⟨.ref p, _, J, rfl, q ks p hs hm hn⟩
end
def insD (a : Int) : List Int → List Int
  | [] => [a]
  | b :: l => if a < b then a :: b :: l else if a = b then b :: l else b :: insD a l
def setI : List Int → List Int
  | [] => []
  | a :: l => insD a (setI l)
theorem mem_insD {a x : Int} : ∀ {l}, x ∈ insD a l ↔ x = a ∨ x ∈ l
  | [] => by simp [insD]
  | b :: l => by
    unfold insD
    split
    · simp
    · split
      · rename_i h
        subst h
        simp
      · simp only [List.mem_cons, mem_insD]
        constructor
        · rintro (h | h | h)
          · exact .inr (.inl h)
          · exact .inl h
          · exact .inr (.inr h)
        · rintro (h | h | h)
          · exact .inr (.inl h)
          · exact .inl h
          · exact .inr (.inr h)
theorem mem_setI {x : Int} : ∀ {l}, x ∈ setI l ↔ x ∈ l
  | [] => by simp [setI]
  | a :: l => by simp [setI, mem_insD, mem_setI]
theorem insD_pw (a : Int) : ∀ l, l.Pairwise (· < ·) → (insD a l).Pairwise (· < ·)
  | [], _ => by simp [insD]
  | b :: l, h => by
    obtain ⟨h1, h2⟩ := List.pairwise_cons.mp h
    unfold insD
    split
    · refine List.pairwise_cons.mpr ⟨fun x hx => ?_, h⟩
      rcases List.mem_cons.mp hx with rfl | hx
      · assumption
      · have := h1 x hx
        omega
    · split
      · exact h
      · refine List.pairwise_cons.mpr ⟨fun x hx => ?_, insD_pw a l h2⟩
        rcases mem_insD.mp hx with rfl | hx
        · omega
        · exact h1 x hx
theorem setI_pw : ∀ l, (setI l).Pairwise (· < ·)
  | [] => List.Pairwise.nil
  | a :: l => insD_pw a _ (setI_pw l)
theorem insD_len (a : Int) : ∀ l, (insD a l).length ≤ l.length + 1
  | [] => by simp [insD]
  | b :: l => by
    unfold insD
    split
    · simp
    · split
      · simp
      · have := insD_len a l
        simp only [List.length_cons]
        omega
theorem setI_len : ∀ l, (setI l).length ≤ l.length
  | [] => by simp [setI]
  | a :: l => by
    have h1 := insD_len a (setI l)
    have h2 := setI_len l
    simp only [setI, List.length_cons]
    omega
theorem strict_uniq {l l' : List Int} (h : l.Pairwise (· < ·)) (h' : l'.Pairwise (· < ·)) (m : ∀ k, k ∈ l ↔ k ∈ l') : l = l' := by
  have n1 : l.Nodup := h.imp fun {a b} q => by omega
  have n2 : l'.Nodup := h'.imp fun {a b} q => by omega
  exact sorted_uniq ((List.perm_ext_iff_of_nodup n1 n2).mpr m) (h.imp fun {a b} q => by omega) (h'.imp fun {a b} q => by omega)
def gSortedSet : List Val → Option R
  | [v] => match lstOf v with
    | some vs => match intsOf vs with
      | some ns => if ns.length + 1 < 4096 then some (.own ((setI ns).map Val.int)) else none
      | none => none
    | none => none
  | _ => none
section
variable {Z : Stc} {X : Cx} {W : WX}
theorem snd_cbR {K : PySem.W.Frag} {ta : TA} {g : List Val → Option R} {ds : List DP} {r2 : List V → Hp → VK → Prop} (h : Snd K Z W (rpPs K Z) ta (dVals ds)) (im : ∀ xs H Q, rC K Z g xs H Q → r2 xs H Q) : Snd K Z W (rpE K Z) (fun σ H Q => ta σ H fun xs H1 => r2 xs H1 Q) (dCB g ds) := by
  refine snd_bind (RPb := rpE K Z) (tb := fun xs σ H Q => r2 xs H Q) (db := fun vs env st => fromO (g vs) st) h ?_
  intro S σ H env st Q vs xs S1 H1 st1 r e1 r1 p1 po
  cases eg : g vs with
  | none => simp only [eg, fromO, Post] at po
  | some res =>
    simp only [eg, fromO, Post] at po
    exact im _ _ _ ⟨S1, vs, res, r1.wf, p1.p, eg, fun x' S' H' e4 rr => po x' S' H' e4.ext e4.wf (r1.str.extP e4) (rr.back e1.live)⟩
theorem sortedSet_im {K : PySem.W.Frag} {w : World} (xs : List V) (H : Hp) (Q : VK) (h : rC K Z gSortedSet xs H Q) : rSetI K w xs H fun x H2 => rSortA w [x] H2 Q := by
  obtain ⟨S, vs, r, wf, pr, eg, q⟩ := h
  unfold gSortedSet at eg
  split at eg
  · split at eg
    · rename_i ws e
      split at eg
      · rename_i ns e2
        split at eg
        · rename_i hl
          cases eg
          obtain ⟨x, rfl, p1⟩ := prep1 pr
          obtain ⟨a, ys, rfl, hs, r1⟩ := lst_rep wf p1 e
          have ey := repL_intsOf r1 e2
          subst ey
          refine ⟨a, ns, rfl, hs, hl, fun b c hb => ?_⟩
          refine ⟨b, _, _, rfl, upd_same, fun ks p h1 h2 hp => ?_⟩
          have hk : ks = setI ns := strict_uniq h1 (setI_pw ns) fun k => by
            rw [h2 k, decide_eq_true_eq, mem_setI]
          subst hk
          have ex1 : ExtP S H S (upd H b (SetO w b (fun j => decide (j ∈ ns)) c)) := ExtP.new wf hb
          have ex2 := ExtP.new ex1.wf hp (o := .lst ((setI ns).map V.int))
          have hp0 : H p = none := none_of_live ex1.ext.live hp
          exact q _ S _ (ex1.trans ex2) ⟨p, _, rfl, upd_same, ng_none ex1.wf hp, hp0, repL_ints (fun _ => rfl) _⟩
        · cases eg
      · cases eg
    · cases eg
  · cases eg
theorem me_sortedSet {e : Expr} {d : DP} {p p2 pos pos2 : Pos} (hc : X.calm = true) (hm : X.mg "sorted" = none) (hm2 : X.mg "set" = none) (ha : MPs Z X W [e] (dVals [d])) (hg : Gl X "sorted" := by rfl) (hg2 : Gl X "set" := by rfl)
    (hs : starEach [e] X.env = (false, eval e X.env) :: starEach [] X.env := by rfl) (hpl : (backTo pos2 (starEach [] X.env)).any (·.1) = false := by rfl)
    (hs1 : starEach [.Call (.Name "set" p2) [e] [] pos2] X.env = (false, eval (.Call (.Name "set" p2) [e] [] pos2) X.env) :: starEach [] X.env := by rfl) (hpl1 : (backTo pos (starEach [] X.env)).any (·.1) = false := by rfl) :
    ME Z X W (.Call (.Name "sorted" p) [.Call (.Name "set" p2) [e] [] pos2] [] pos) (dCB gSortedSet [d]) := by
  obtain ⟨t, h1, h2⟩ := ha
  have inner := pe_callTy (p := p2) (cr_setI hc) hg2 hm2 (by decide +kernel) h1 (by decide) (by decide) hs hpl
  have outer := pe_callB (p := p) (cr_sortA hc) hg hm (by decide +kernel) (pa_cons inner pa_nil hs1) (by decide) (by decide) hs1 hpl1
  exact ⟨_, outer, snd_cbR (ta := t) (r2 := fun xs H Q => rSetI X.K X.w xs H fun x H2 => rSortA X.w [x] H2 Q) h2 sortedSet_im⟩
end
@[simp] theorem gSortedSet_ints {ns : List Int} (h : ns.length + 1 < 4096) : gSortedSet [.lst (ns.map Val.int)] = some (.own ((setI ns).map Val.int)) := by
  unfold gSortedSet
  simp only [lstOf, intsOf_map]
  rw [if_pos h]
end Eg

namespace Eg
open PySem L2
/-! ### l += e, lists -/
@[simp] def R.lst : R → Option (List Val)
  | .own ws => some ws
  | .val (.lst ws) => some ws
  | _ => none
@[simp] def dAugL (i : Nat) (d : DE) : DS := fun env st => match env[i]? with
  | some (some (.own vs)) => dExpS (d env st) env fun r st => match r.lst with
    | some ws => if vs.length + ws.length ≤ sizeLine then .nx (env.set i (some (.own (vs ++ ws)))) st else .bad
    | none => .bad
  | _ => .bad
section
variable {Z : Stc} {X : Cx} {W : WX}
theorem rr_lst {K : PySem.W.Frag} {S : Gh} {H0 H : Hp} {r : R} {x : V} {ws : List Val} (w : Wf S H) (h : RR K Z S H0 H r x) (e : r.lst = some ws) : ∃ b zs, x = .ref b ∧ H b = some (.lst zs) ∧ RepL K Z S ws zs := by
  cases r with
  | own vs =>
    cases e
    obtain ⟨l, xs, rfl, h1, _, _, h2⟩ := h
    exact ⟨l, xs, rfl, h1, h2⟩
  | ownd ks vs => cases e
  | val v =>
    cases v with
    | lst vs =>
      cases e
      simp only [RR, Rep] at h
      obtain ⟨a, xs, rfl, g, h2⟩ := h
      exact ⟨a, xs, rfl, w.same _ _ g, h2⟩
    | _ => cases e
theorem ms_augL {i : Nat} {x : Str} {e : Expr} {d : DE} {pos pos' : Pos} (hN : X.N.Nodup) (hi : X.N[i]? = some x) (hx : Loc X.env.scope x) (h : ME Z X W e d)
    (hf : X.fn x = true ∨ X.env.scope.names.lookup x = some .local := by first | exact .inl rfl | exact .inr rfl | assumption) : MS Z X W (.AugAssign (.Name x pos') .Add e pos) (dAugL i d) := by
  obtain ⟨t, h1, h2⟩ := h
  have ho : PIp X .Add rExt2 := iop_ext
  refine ⟨_, ps_aug hN hi hx h1 ho hf, fun S σ H env st D r p => ?_⟩
  unfold dAugL at p
  split at p
  · rename_i vs ei
    obtain ⟨x0, k1, k2⟩ := r.sl i _ ei
    refine ⟨x0, k1, h2 S σ H env st _ r ?_⟩
    refine PostS.of_any (RP := rpE X.K Z H) (f := fun r st => match r.lst with
      | some ws => if vs.length + ws.length ≤ sizeLine then .nx (env.set i (some (.own (vs ++ ws)))) st else .bad
      | none => .bad) r p fun w st2 z S2 H2 e2 r2 q2 p3 => ?_
    cases ew : w.lst with
    | none =>
      simp only [ew] at p3
      exact p3.elim
    | some ws =>
      simp only [ew] at p3
      split at p3
      · rename_i hl
        obtain ⟨b, zs, rfl, hb, rb⟩ := rr_lst r2.wf q2 ew
        obtain ⟨x2, k3, k4⟩ := r2.sl i _ ei
        rw [k1] at k3
        cases k3
        obtain ⟨l, xs, rfl, hl2, g, rl⟩ := k4
        obtain ⟨r3, e3⟩ := r2.write (o := .lst (xs ++ zs)) (s' := .own (vs ++ ws)) ei rfl k1 ⟨_, hl2, trivial⟩ g rfl ⟨l, _, rfl, upd_same, g, repL_append rl rb⟩
        refine ⟨l, b, xs, zs, rfl, rfl, hl2, hb, by rw [← repL_length rl, ← repL_length rb]; exact hl, ?_⟩
        show D.nx (σ.set i (some (V.ref l))) _
        rw [set_same k1]
        exact p3 S2 σ _ ((e2.toS env σ).trans e3) r3
      · exact p3.elim
  · exact p.elim
end
end Eg

namespace Eg
open PySem L2
/-! ### an own list handed on within an expression whose result bears none of it -/
def grd : R → Bool
  | .own ws => ws.all flat
  | .val v => flat v
  | _ => false
def tmpO (o : Out R) : Out R := match o with
  | .ok r [] => if grd r = true then .ok r [] else .bad
  | _ => .bad
@[simp] theorem tmpO_ok (r : R) : tmpO (.ok r []) = if grd r = true then .ok r [] else .bad := rfl
@[simp] def dTmp (i : Nat) (d : DE) : DE := fun env st => match env[i]? with
  | some (some (.own vs)) => if st = [] then tmpO (d (env.set i (some (.val (.lst vs)))) []) else .bad
  | _ => d env st
@[simp] theorem grd_ints (l : List Int) : grd (.own (l.map Val.int)) = true := by
  show (l.map Val.int).all flat = true
  rw [List.all_map]
  exact List.all_eq_true.mpr fun _ _ => rfl
section
variable {K : PySem.W.Frag} {Z : Stc} {W : WX}
theorem flat_any {S S' : Gh} {v : Val} {x : V} (f : flat v = true) (h : Rep K Z S v x) : Rep K Z S' v x := by
  cases v <;> first | (cases f; done) | simpa only [Rep] using h
theorem flats_any {S S' : Gh} : ∀ {vs : List Val} {xs : List V}, vs.all flat = true → RepL K Z S vs xs → RepL K Z S' vs xs
  | [], xs, _, h => by simpa only [RepL] using h
  | v :: vs, xs, f, h => by
    obtain ⟨x, r, rfl, h1, h2⟩ := repL_uncons h
    have ff : flat v = true ∧ vs.all flat = true := by simpa using f
    exact repL_cons (flat_any ff.1 h1) (flats_any ff.2 h2)
theorem snd_tmp {te : TE} {d : DE} (i : Nat) (h : Snd K Z W (rpE K Z) te d) : Snd K Z W (rpE K Z) te (dTmp i d) := by
  intro S σ H env st Q r p
  unfold dTmp at p
  split at p
  · rename_i vs e
    split at p
    · rename_i hst
      subst hst
      obtain ⟨x, h1, h2⟩ := r.sl i _ e
      obtain ⟨l, xs, rfl, hl, g, rl⟩ := h2
      obtain ⟨r2, e2⟩ := fz_step (o := .lst xs) (v := .lst vs) r e rfl h1 hl trivial trivial g (by simp only [Rep]; exact ⟨l, xs, rfl, upd_same, RepL.mono (mon_add g.g) _ _ rl⟩)
      rw [upd_id hl] at r2 e2
      refine h _ σ H _ [] Q r2 ?_
      have rho0 : S.rho = [] := List.length_eq_zero_iff.mp r.str.len.symm
      have nm : ∀ a, ¬ S.mt a := fun a ⟨i, z, _⟩ => by rw [rho0] at z; exact absurd z (by simp)
      cases ed : d (env.set i (some (.val (.lst vs)))) [] with
      | bad => simp only [ed, tmpO, Post] at p
      | exc c fs st1 => simp only [ed, tmpO, Post] at p
      | ok res st1 =>
        simp only [ed, tmpO] at p
        cases st1 with
        | cons o st1 => simp only [Post] at p
        | nil =>
          simp only at p
          split at p
          · rename_i hg
            intro y S1 H1 x1 w1 s1 q
            have sg : Same S.G S1.G := (same_new g.g).trans x1.sg
            refine p y S H1 ⟨⟨[], by simp⟩, Same.refl _, fun a ha => .inl ha, fun a o ha hn => x1.frame a o ha ⟨hn.rho, hn.nt⟩, x1.live, fun a ha => .inl ha⟩
              ⟨fun a o ha => w1.same a o (sg a o ha), r.wf.frz, fun a ha => absurd ha (nm a), fun a ha => absurd ha (nm a)⟩ ⟨s1.tab, by rw [rho0]; rfl, r.str.nd, r.str.dl, fun k o hk => by simp at hk⟩ ?_
            cases res with
            | own ws =>
              obtain ⟨l2, ys, rfl, q1, q2, q3, q4⟩ := q
              refine ⟨l2, ys, rfl, q1, ⟨?_, nm _⟩, q3, flats_any hg q4⟩
              have q2 := q2.g
              cases c : S.G l2 with
              | none => rfl
              | some u => rw [sg _ _ c] at q2; cases q2
            | val v => exact flat_any hg q
            | ownd ks ws => cases hg
          · exact p.elim
    · exact p.elim
  · exact h S σ H env st Q r p
end
section
variable {Z : Stc} {X : Cx} {W : WX}
theorem me_tmp {e : Expr} {d : DE} (i : Nat) (h : ME Z X W e d) : ME Z X W e (dTmp i d) := let ⟨t, h1, h2⟩ := h; ⟨t, h1, snd_tmp i h2⟩
end
end Eg
namespace Eg
open PySem L2
/-! ### items of written lists by a rest -/
@[simp] theorem at_mod2 (a b x : Int) : atI [Val.int a, .int b] (x % 2) = some (.int (if x % 2 = 0 then a else b)) := by
  have h : x % 2 = 0 ∨ x % 2 = 1 := by omega
  rcases h with h | h <;> simp [h]
@[simp] theorem at_mod3 (a b c x : Int) : atI [Val.int a, .int b, .int c] (x % 3) = some (.int (if x % 3 = 0 then a else if x % 3 = 1 then b else c)) := by
  have h : x % 3 = 0 ∨ x % 3 = 1 ∨ x % 3 = 2 := by omega
  rcases h with h | h | h <;> simp [h]
theorem at3 {α : Type} (a b c d : α) (l : List α) : atI (a :: b :: c :: d :: l) 3 = some d := atI_ofNat (a :: b :: c :: d :: l) 3
theorem at4 {α : Type} (a b c d e : α) (l : List α) : atI (a :: b :: c :: d :: e :: l) 4 = some e := atI_ofNat (a :: b :: c :: d :: e :: l) 4
theorem at5 {α : Type} (a b c d e f : α) (l : List α) : atI (a :: b :: c :: d :: e :: f :: l) 5 = some f := atI_ofNat (a :: b :: c :: d :: e :: f :: l) 5
@[simp] theorem at_mod4 (a b c d x : Int) : atI [Val.int a, .int b, .int c, .int d] (x % 4) = some (.int (if x % 4 = 0 then a else if x % 4 = 1 then b else if x % 4 = 2 then c else d)) := by
  have h : x % 4 = 0 ∨ x % 4 = 1 ∨ x % 4 = 2 ∨ x % 4 = 3 := by omega
  rcases h with h | h | h | h <;> simp [h, at3]
@[simp] theorem at_mod5 (a b c d e x : Int) : atI [Val.int a, .int b, .int c, .int d, .int e] (x % 5) = some (.int (if x % 5 = 0 then a else if x % 5 = 1 then b else if x % 5 = 2 then c else if x % 5 = 3 then d else e)) := by
  have h : x % 5 = 0 ∨ x % 5 = 1 ∨ x % 5 = 2 ∨ x % 5 = 3 ∨ x % 5 = 4 := by omega
  rcases h with h | h | h | h | h <;> simp [h, at3, at4]
@[simp] theorem at_mod6 (a b c d e f x : Int) : atI [Val.int a, .int b, .int c, .int d, .int e, .int f] (x % 6) = some (.int (if x % 6 = 0 then a else if x % 6 = 1 then b else if x % 6 = 2 then c else if x % 6 = 3 then d else if x % 6 = 4 then e else f)) := by
  have h : x % 6 = 0 ∨ x % 6 = 1 ∨ x % 6 = 2 ∨ x % 6 = 3 ∨ x % 6 = 4 ∨ x % 6 = 5 := by omega
  rcases h with h | h | h | h | h | h <;> simp [h, at3, at4, at5]
theorem at_last_ex {α β : Type} {f : α → β} {l : List α} (h : l ≠ []) : ∃ a, a ∈ l ∧ atI (l.map f) (-1) = some (f a) := by
  obtain ⟨fs, a, rfl⟩ := (List.eq_nil_or_concat l).resolve_left h
  rw [List.concat_eq_append]
  exact ⟨a, by simp, by rw [List.map_append]; exact atI_last _ _⟩
theorem cut_ints (ns : List Int) (lo hi : Option Int) : ∃ cs : List Int, cutW (ns.map Val.int) lo hi = cs.map Val.int ∧ cs.length ≤ ns.length ∧ ∀ c ∈ cs, c ∈ ns := by
  refine ⟨_, cutW_map Val.int ns lo hi, ?_, fun c hc => ?_⟩
  · rw [List.length_take, List.length_drop]
    omega
  · exact List.mem_of_mem_drop (List.mem_of_mem_take hc)
theorem divOk_len {n : Nat} (h : 0 < n) (h' : n ≤ 1000000) : divOk (n : Int) = true := by
  unfold divOk
  refine decide_eq_true ⟨by omega, ?_⟩
  rw [Int.natAbs_natCast]
  have : n.log2 < 24 := (Nat.log2_lt (by omega)).mpr (by omega)
  omega
/-- spans -/
abbrev Sn := Option Int × Option Int
def tsn (s : Sn) : Val := .tup [oi s.1, oi s.2]
theorem eqv_tsn (a b : Sn) : eqv (tsn a) (tsn b) = decide (a = b) := by
  obtain ⟨a1, a2⟩ := a
  obtain ⟨b1, b2⟩ := b
  simp [tsn, Bool.decide_and]
@[simp] theorem dat_tsn (n : Nat) (a : Sn) : dat (n + 1) (tsn a) = true := by simp [tsn]
@[simp] theorem dat7_tsn (a : Sn) : dat 7 (tsn a) = true := dat_tsn 6 a
@[simp] theorem dat8_tsns (l : List Sn) : dat 8 (.lst (l.map tsn)) = true := dat_map dat7_tsn l
@[simp] theorem gEq_tsns (l l' : List Sn) : gEq (.lst (l.map tsn)) (.lst (l'.map tsn)) = some (.val (.bl (decide (l = l')))) := by
  rw [gEq_dat (dat8_tsns l) (dat8_tsns l'), eqv_lst, eqvs_map eqv_tsn]
@[simp] theorem gNe_tsns (l l' : List Sn) : gNe (.lst (l.map tsn)) (.lst (l'.map tsn)) = some (.val (.bl (!decide (l = l')))) := by
  rw [gNe_dat (dat8_tsns l) (dat8_tsns l'), eqv_lst, eqvs_map eqv_tsn]
theorem eqv_oi' (a b : OI) : eqv (oi a) (oi b) = decide (a = b) := eqv_oi a b
theorem dat7_oi (a : OI) : dat 7 (oi a) = true := dat_oi 7 a
theorem dat8_ois (l : List OI) : dat 8 (.lst (l.map oi)) = true := dat_map dat7_oi l
@[simp] theorem gEq_ois (l l' : List OI) : gEq (.lst (l.map oi)) (.lst (l'.map oi)) = some (.val (.bl (decide (l = l')))) := by
  rw [gEq_dat (dat8_ois l) (dat8_ois l'), eqv_lst, eqvs_map eqv_oi']
@[simp] theorem gNe_ois (l l' : List OI) : gNe (.lst (l.map oi)) (.lst (l'.map oi)) = some (.val (.bl (!decide (l = l')))) := by
  rw [gNe_dat (dat8_ois l) (dat8_ois l'), eqv_lst, eqvs_map eqv_oi']
theorem blsOf_all {bs : List Bool} {vs : List Val} (h : vs = bs.map Val.bl) : blsOf vs = some bs := by rw [h]; exact blsOf_map bs
end Eg
namespace Eg
open PySem L2
@[simp] theorem at_d32 (a b x : Int) : atI [Val.int a, .int b] (x % 3 / 2) = some (.int (if x % 3 = 2 then b else a)) := by
  have h : x % 3 = 0 ∨ x % 3 = 1 ∨ x % 3 = 2 := by omega
  rcases h with h | h | h <;> simp [h]
end Eg

/-! Maps 2: spans met, maps cut, written over; two maps that tell the same are one list. -/
namespace Eg
def laterM : OI → OI → OI
  | none, b => b
  | a, none => a
  | some a, some b => some (if b > a then b else a)
def earlierM : OI → OI → OI
  | none, b => b
  | a, none => a
  | some a, some b => some (if b < a then b else a)
def isSp : OI → OI → Bool
  | some l, some h => decide (l < h)
  | _, _ => true
theorem isSp_iff (a b : OI) : isSp a b = true ↔ spO a b := by cases a <;> cases b <;> simp [isSp, spO]
def meetM (a b c d : OI) : Option Sn := if isSp (laterM a c) (earlierM b d) then some (laterM a c, earlierM b d) else none
theorem meet_in (a b c d : OI) (p : Int) : (inS a b p && inS c d p) = inS (laterM a c) (earlierM b d) p := by
  cases a <;> cases b <;> cases c <;> cases d <;> simp only [laterM, earlierM, inS] <;> rw [Bool.eq_iff_iff] <;> grind
theorem sp_of_in {a b : OI} {p : Int} (h : inS a b p = true) : spO a b := by
  cases a <;> cases b <;> simp [spO] at h ⊢
  omega
theorem meet_some {a b c d : OI} {s : Sn} (h : meetM a b c d = some s) : spO s.1 s.2 ∧ (∀ p, inS s.1 s.2 p = (inS a b p && inS c d p)) ∧ s = (laterM a c, earlierM b d) := by
  unfold meetM at h
  split at h
  · rename_i hs
    cases h
    exact ⟨(isSp_iff _ _).mp hs, fun p => (meet_in a b c d p).symm, rfl⟩
  · cases h
theorem meet_none {a b c d : OI} (h : meetM a b c d = none) (p : Int) : (inS a b p && inS c d p) = false := by
  unfold meetM at h
  split at h
  · cases h
  · rename_i hs
    rw [meet_in]
    cases e : inS (laterM a c) (earlierM b d) p with
    | false => rfl
    | true => exact absurd ((isSp_iff _ _).mpr (sp_of_in e)) hs
/-- a map cut to a span -/
def cutM (m : List Pc) (s : Sn) : List Pc := m.filterMap fun r => (meetM r.1 r.2.1 s.1 s.2).map fun t => (t.1, t.2, r.2.2)
theorem cutM_len (m : List Pc) (s : Sn) : (cutM m s).length ≤ m.length := List.length_filterMap_le _ _
theorem cut_piece {r : Pc} {s : Sn} {q : Pc} (h : (meetM r.1 r.2.1 s.1 s.2).map (fun t => (t.1, t.2, r.2.2)) = some q) : ∃ t : Sn, meetM r.1 r.2.1 s.1 s.2 = some t ∧ q = (t.1, t.2, r.2.2) := by
  cases e : meetM r.1 r.2.1 s.1 s.2 with
  | none => rw [e] at h; cases h
  | some t => rw [e] at h; cases h; exact ⟨t, rfl, rfl⟩
theorem later_le (a c : OI) (x : Int) (h : a = some x) : ∃ y, laterM a c = some y ∧ x ≤ y := by
  subst h
  cases c with
  | none => exact ⟨x, rfl, Int.le_refl _⟩
  | some c =>
    refine ⟨_, rfl, ?_⟩
    split <;> omega
theorem earlier_le (a c : OI) (x : Int) (h : a = some x) : ∃ y, earlierM a c = some y ∧ y ≤ x := by
  subst h
  cases c with
  | none => exact ⟨x, rfl, Int.le_refl _⟩
  | some c =>
    refine ⟨_, rfl, ?_⟩
    split <;> omega
theorem lk_cut {a b : Pc} {s t u : Sn} (h : Lk a b) (ea : meetM a.1 a.2.1 s.1 s.2 = some t) (eb : meetM b.1 b.2.1 s.1 s.2 = some u) : Lk (t.1, t.2, a.2.2) (u.1, u.2, b.2.2) := by
  obtain ⟨_, _, rfl⟩ := meet_some ea
  obtain ⟨_, _, rfl⟩ := meet_some eb
  obtain ⟨a1, a2, a3⟩ := a
  obtain ⟨b1, b2, b3⟩ := b
  have hle := h.le
  obtain ⟨x, y, rfl, rfl, hxy⟩ := leO_some hle
  obtain ⟨x', ex, hx⟩ := earlier_le (some x) s.2 x rfl
  obtain ⟨y', ey, hy⟩ := later_le (some y) s.1 y rfl
  simp only [Lk] at h ⊢
  rw [ex, ey]
  rcases h with h | h
  · simp only [ltO] at h
    exact .inl (show x' < y' by omega)
  · by_cases c : x' < y'
    · exact .inl c
    · exact .inr ⟨show x' ≤ y' by omega, h.2⟩
theorem cut_wf {m : List Pc} (w : WF m) (s : Sn) : WF (cutM m s) := by
  unfold cutM
  induction m with
  | nil => exact WF.nil
  | cons r m ih =>
    obtain ⟨h1, h2, h3⟩ := wf_cons.mp w
    rw [List.filterMap_cons]
    cases e : (meetM r.1 r.2.1 s.1 s.2) with
    | none => exact ih h3
    | some t =>
      simp only [Option.map_some]
      refine wf_cons.mpr ⟨fun q hq => ?_, (meet_some e).1, ih h3⟩
      obtain ⟨b, hb, eq⟩ := List.mem_filterMap.mp hq
      obtain ⟨u, eu, rfl⟩ := cut_piece eq
      exact lk_cut (h1 b hb) e eu
theorem cut_vl {m : List Pc} (w : WF m) (s : Sn) (p : Int) : vl (cutM m s) p = if inS s.1 s.2 p = true then vl m p else none := by
  induction m with
  | nil => simp [cutM]
  | cons r m ih =>
    have wc := cut_wf w s
    obtain ⟨h1, h2, h3⟩ := wf_cons.mp w
    rw [vl_cons w]
    unfold cutM at wc ⊢
    rw [List.filterMap_cons] at wc ⊢
    have ih' := ih h3
    unfold cutM at ih'
    cases e : (meetM r.1 r.2.1 s.1 s.2) with
    | none =>
      have n := meet_none e p
      simp only [Option.map_none]
      rw [ih']
      cases c1 : inS r.1 r.2.1 p <;> cases c2 : inS s.1 s.2 p <;> rw [c1, c2] at n <;> simp at n ⊢
    | some t =>
      have n := (meet_some e).2.1 p
      simp only [e, Option.map_some] at wc ⊢
      rw [vl_cons wc]
      show (if inS t.1 t.2 p = true then some r.2.2 else _) = _
      rw [n, ih']
      cases c1 : inS r.1 r.2.1 p <;> cases c2 : inS s.1 s.2 p <;> simp
/-! ### two maps that tell the same -/
theorem vl_before {r : Pc} {m : List Pc} (w : WF (r :: m)) {p : Int} (h : bgn p r = false) : vl (r :: m) p = none := by
  rw [← lookM_val (b := none) w]
  unfold lookM
  rw [if_pos h]
theorem vl_some {m : List Pc} (w : WF m) {p v : Int} (h : vl m p = some v) : ∃ r ∈ m, inS r.1 r.2.1 p = true ∧ r.2.2 = v := by
  induction m with
  | nil => cases h
  | cons r m ih =>
    rw [vl_cons w] at h
    split at h
    · rename_i c
      cases h
      exact ⟨r, List.mem_cons_self, c, rfl⟩
    · obtain ⟨r', h1, h2⟩ := ih (wf_cons.mp w).2.2 h
      exact ⟨r', List.mem_cons_of_mem _ h1, h2⟩
theorem vl_head {r : Pc} {m : List Pc} (w : WF (r :: m)) {p : Int} (h : inS r.1 r.2.1 p = true) : vl (r :: m) p = some r.2.2 := by
  rw [vl_cons w, if_pos h]
/-- a place of a span, as far to the left as is wished -/
theorem sp_place {lo hi : OI} (s : spO lo hi) (b : Int) : ∃ p, inS lo hi p = true ∧ (lo = none → p < b) ∧ (∀ l, lo = some l → p = l) := by
  cases lo with
  | some l =>
    refine ⟨l, ?_, (by intro h; cases h), (by intro x h; cases h; rfl)⟩
    cases hi <;> simp [spO] at s ⊢
    exact s
  | none =>
    cases hi with
    | none => exact ⟨b - 1, by simp, fun _ => by omega, (by intro x h; cases h)⟩
    | some h => exact ⟨if b ≤ h then b - 1 else h - 1, by simp; split <;> omega, fun _ => by split <;> omega, (by intro x h; cases h)⟩
theorem wf_lo {r r' : Pc} {m m' : List Pc} (w : WF (r :: m)) (w' : WF (r' :: m')) (h : ∀ p, vl (r :: m) p = vl (r' :: m') p) : ∀ l, r'.1 = some l → ∃ k, r.1 = some k ∧ l ≤ k := by
  intro l hl
  have key : ∀ p, inS r.1 r.2.1 p = true → l ≤ p := by
    intro p hp
    apply Classical.byContradiction
    intro hlt
    have h1 := vl_head w hp
    have h2 : vl (r' :: m') p = none := vl_before w' (by unfold bgn; rw [hl]; exact decide_eq_false hlt)
    rw [h p, h2] at h1
    cases h1
  obtain ⟨p, hp, q1, q2⟩ := sp_place (wf_cons.mp w).2.1 l
  have := key p hp
  cases e : r.1 with
  | none => have := q1 e; omega
  | some k => exact ⟨k, rfl, by rw [← q2 k e]; exact this⟩
theorem wf_hi {r r' : Pc} {m m' : List Pc} (w : WF (r :: m)) (w' : WF (r' :: m')) (h : ∀ p, vl (r :: m) p = vl (r' :: m') p) (hv : r.2.2 = r'.2.2) (hlo : r.1 = r'.1) : ∀ x, r.2.1 = some x → ∃ y, r'.2.1 = some y ∧ y ≤ x := by
  intro x hx
  apply Classical.byContradiction
  intro hn
  obtain ⟨h1, h2, h3⟩ := wf_cons.mp w
  have inr' : inS r'.1 r'.2.1 x = true := by
    obtain ⟨a1, a2, a3⟩ := r
    obtain ⟨b1, b2, b3⟩ := r'
    simp only at hx hlo hn ⊢
    subst hx hlo
    cases a1 <;> cases b2 <;> simp [spO] at h2 hn ⊢ <;> omega
  have e1 := vl_head w' inr'
  rw [← h x, vl_cons w] at e1
  have nr : inS r.1 r.2.1 x = false := by
    rw [hx]
    cases r.1 <;> simp
  rw [nr, if_neg Bool.false_ne_true] at e1
  obtain ⟨a, ha, ia, va⟩ := vl_some h3 e1
  have lk := h1 a ha
  obtain ⟨a1, a2, a3⟩ := a
  obtain ⟨r1, r2, r3⟩ := r
  simp only at hx va hv ia
  subst hx
  cases a1 with
  | none => simp [Lk, ltO, leO] at lk
  | some l =>
    simp only [Lk, ltO, leO] at lk
    cases a2 <;> simp at ia <;> rcases lk with lk | lk <;> first | omega | (exact lk.2 (by simp only; omega))
theorem wf_ext : ∀ {m m' : List Pc}, WF m → WF m' → (∀ p, vl m p = vl m' p) → m = m'
  | [], [], _, _, _ => rfl
  | [], r :: m, _, w, h => by
    obtain ⟨p, hp, _⟩ := sp_place (wf_cons.mp w).2.1 0
    have := h p
    rw [vl_head w hp] at this
    cases this
  | r :: m, [], w, _, h => by
    obtain ⟨p, hp, _⟩ := sp_place (wf_cons.mp w).2.1 0
    have := h p
    rw [vl_head w hp] at this
    cases this
  | r :: m, r' :: m', w, w', h => by
    have h' : ∀ p, vl (r' :: m') p = vl (r :: m) p := fun p => (h p).symm
    have hlo : r.1 = r'.1 := by
      have k1 := wf_lo w w' h
      have k2 := wf_lo w' w h'
      cases e : r.1 with
      | none =>
        cases e' : r'.1 with
        | none => rfl
        | some l =>
          obtain ⟨k, q, _⟩ := k1 l e'
          rw [e] at q
          cases q
      | some k =>
        obtain ⟨l, q, hq⟩ := k2 k e
        obtain ⟨k', q', hq'⟩ := k1 l q
        rw [e] at q'
        cases q'
        rw [q]
        congr 1
        omega
    have hv : r.2.2 = r'.2.2 := by
      obtain ⟨s1, s2⟩ : spO r.1 r.2.1 ∧ spO r'.1 r'.2.1 := ⟨(wf_cons.mp w).2.1, (wf_cons.mp w').2.1⟩
      obtain ⟨p, hp, q1, q2⟩ := sp_place s1 (match r'.2.1 with | none => 0 | some y => y)
      have hp' : inS r'.1 r'.2.1 p = true := by
        obtain ⟨a1, a2, a3⟩ := r
        obtain ⟨b1, b2, b3⟩ := r'
        simp only at hlo q1 q2 s2 ⊢
        subst hlo
        cases a1 with
        | none =>
          cases b2 with
          | none => rfl
          | some y => simpa using q1 rfl
        | some l =>
          have := q2 l rfl
          subst this
          cases b2 with
          | none => simp
          | some y =>
            simp [spO] at s2 ⊢
            exact s2
      have e := h p
      rw [vl_head w hp, vl_head w' hp'] at e
      exact Option.some.inj e
    have hhi : r.2.1 = r'.2.1 := by
      have k1 := wf_hi w w' h hv hlo
      have k2 := wf_hi w' w h' hv.symm hlo.symm
      cases e : r.2.1 with
      | none =>
        cases e' : r'.2.1 with
        | none => rfl
        | some l =>
          obtain ⟨k, q, _⟩ := k2 l e'
          rw [e] at q
          cases q
      | some k =>
        obtain ⟨l, q, hq⟩ := k1 k e
        obtain ⟨k', q', hq'⟩ := k2 l q
        rw [e] at q'
        cases q'
        rw [q]
        congr 1
        omega
    obtain ⟨a1, a2, a3⟩ := r
    obtain ⟨b1, b2, b3⟩ := r'
    simp only at hlo hv hhi
    subst hlo hv hhi
    congr 1
    obtain ⟨g1, g2, g3⟩ := wf_cons.mp w
    obtain ⟨g4, g5, g6⟩ := wf_cons.mp w'
    refine wf_ext g3 g6 fun p => ?_
    have e := h p
    rw [vl_cons w, vl_cons w'] at e
    by_cases c : inS a1 a2 p = true
    · have n1 : vl m p = none := by
        cases q : vl m p with
        | none => rfl
        | some v =>
          obtain ⟨a, ha, ia, _⟩ := vl_some g3 q
          rw [lk_out (g1 a ha) g2 c] at ia
          cases ia
      have n2 : vl m' p = none := by
        cases q : vl m' p with
        | none => rfl
        | some v =>
          obtain ⟨a, ha, ia, _⟩ := vl_some g6 q
          rw [lk_out (g4 a ha) g5 c] at ia
          cases ia
      rw [n1, n2]
    · simp only [c, if_false] at e
      simpa using e
/-! ### written over -/
def cutL (m : List Pc) : OI → List Rw
  | none => []
  | some a => (cutM m (none, some a)).map rwOf
def cutG (m : List Pc) : OI → List Rw
  | none => []
  | some b => (cutM m (some b, none)).map rwOf
def putR (m : List Pc) (s : Sn) (v : OI) : List Rw := cutL m s.1 ++ ((s.1, s.2, v) :: cutG m s.2)
def putM (m : List Pc) (s : Sn) (v : OI) : List Pc := knitM (putR m s v)
theorem cut_left {m : List Pc} {a : Int} {q : Pc} (h : q ∈ cutM m (none, some a)) : leO q.2.1 (some a) := by
  obtain ⟨b, hb, eq⟩ := List.mem_filterMap.mp h
  obtain ⟨u, eu, rfl⟩ := cut_piece eq
  obtain ⟨_, _, rfl⟩ := meet_some eu
  obtain ⟨b1, b2, b3⟩ := b
  cases b2 <;> simp only [earlierM, leO]
  · exact Int.le_refl _
  · split <;> omega
theorem cut_right {m : List Pc} {b : Int} {q : Pc} (h : q ∈ cutM m (some b, none)) : leO (some b) q.1 := by
  obtain ⟨c, hc, eq⟩ := List.mem_filterMap.mp h
  obtain ⟨u, eu, rfl⟩ := cut_piece eq
  obtain ⟨_, _, rfl⟩ := meet_some eu
  obtain ⟨b1, b2, b3⟩ := c
  cases b1 <;> simp only [laterM, leO]
  · exact Int.le_refl _
  · split <;> omega
theorem leO_trans {a : OI} {r1 r2 c : OI} (h1 : leO a r1) (s : spO r1 r2) (h2 : leO r2 c) : leO a c := by
  cases a <;> cases r1 <;> cases r2 <;> cases c <;> simp [leO, spO] at h1 s h2 ⊢
  omega
theorem put_ord {m : List Pc} (w : WF m) {s : Sn} (hs : spO s.1 s.2) (v : OI) : OrdR (putR m s v) := by
  obtain ⟨a, b⟩ := s
  have L : ∀ x ∈ cutL m a, leO x.2.1 a := by
    intro x hx
    cases a with
    | none => cases hx
    | some a =>
      obtain ⟨q, hq, rfl⟩ := List.mem_map.mp hx
      exact cut_left hq
  have R : ∀ x ∈ cutG m b, leO b x.1 := by
    intro x hx
    cases b with
    | none => cases hx
    | some b =>
      obtain ⟨q, hq, rfl⟩ := List.mem_map.mp hx
      exact cut_right hq
  unfold putR
  refine ord_append.mpr ⟨?_, ord_cons.mpr ⟨R, hs, ?_⟩, fun x hx y hy => ?_⟩
  · cases a with
    | none => exact ord_nil
    | some a => exact (cut_wf w _).ord
  · cases b with
    | none => exact ord_nil
    | some b => exact (cut_wf w _).ord
  · rcases List.mem_cons.mp hy with rfl | hy
    · exact L x hx
    · exact leO_trans (L x hx) hs (R y hy)
theorem put_wf {m : List Pc} (w : WF m) {s : Sn} (hs : spO s.1 s.2) (v : OI) : WF (putM m s v) := (knit_ok (put_ord w hs v)).1
theorem val_cons_any (r : Rw) (rows : List Rw) (p : Int) : val (r :: rows) p = if rows.any (fun r => inS r.1 r.2.1 p) = true then val rows p else if inS r.1 r.2.1 p = true then r.2.2 else none := by
  show List.foldl _ _ rows = _
  exact foldl_val rows _ p
theorem any_false_val {rows : List Rw} {p : Int} (h : rows.any (fun r => inS r.1 r.2.1 p) = false) : val rows p = none := val_none_of fun r hr => by
  have := List.any_eq_false.mp h r hr
  simpa using this
def geB : OI → Int → Bool
  | none, _ => false
  | some b, p => decide (b ≤ p)
def ltB : OI → Int → Bool
  | none, _ => false
  | some a, p => decide (p < a)
theorem put_vl {m : List Pc} (w : WF m) {s : Sn} (hs : spO s.1 s.2) (v : OI) (p : Int) : vl (putM m s v) p = if inS s.1 s.2 p = true then v else vl m p := by
  have h := (knit_ok (put_ord w hs v)).2 p
  show vl (knitM (putR m s v)) p = _
  rw [h]
  obtain ⟨a, b⟩ := s
  unfold putR
  simp only
  have Rv : val (cutG m b) p = if geB b p = true then vl m p else none := by
    cases b with
    | none => rfl
    | some b =>
      have := cut_vl w (some b, none) p
      simpa [vl, geB, cutG] using this
  have Lv : val (cutL m a) p = if ltB a p = true then vl m p else none := by
    cases a with
    | none => rfl
    | some a =>
      have := cut_vl w (none, some a) p
      simpa [vl, ltB, cutL] using this
  have Ra : (cutG m b).any (fun r => inS r.1 r.2.1 p) = true → ∃ b', b = some b' ∧ b' ≤ p := by
    intro hh
    obtain ⟨x, hx, ix⟩ := List.any_eq_true.mp hh
    cases b with
    | none => cases hx
    | some b =>
      obtain ⟨q, hq, rfl⟩ := List.mem_map.mp hx
      have := cut_right hq
      obtain ⟨q1, q2, q3⟩ := q
      refine ⟨b, rfl, ?_⟩
      cases q1 <;> cases q2 <;> simp [leO, rwOf] at this ix <;> omega
  have La : (cutL m a).any (fun r => inS r.1 r.2.1 p) = true → ∃ a', a = some a' ∧ p < a' := by
    intro hh
    obtain ⟨x, hx, ix⟩ := List.any_eq_true.mp hh
    cases a with
    | none => cases hx
    | some a =>
      obtain ⟨q, hq, rfl⟩ := List.mem_map.mp hx
      have := cut_left hq
      obtain ⟨q1, q2, q3⟩ := q
      refine ⟨a, rfl, ?_⟩
      cases q1 <;> cases q2 <;> simp [leO, rwOf] at this ix <;> omega
  generalize cutG m b = R at Rv Ra ⊢
  generalize cutL m a = L at Lv La ⊢
  rw [val_append, val_cons_any, List.any_cons, Rv, Lv]
  simp only
  cases r : R.any (fun r => inS r.1 r.2.1 p) with
  | true =>
    obtain ⟨b', rfl, hb⟩ := Ra r
    have n : inS a (some b') p = false := by cases a <;> simp <;> omega
    simp [n, geB, hb]
  | false =>
    have Rn := any_false_val r
    rw [Rv] at Rn
    cases i : inS a b p with
    | true => simp
    | false =>
      simp only [Bool.or_false, Bool.false_eq_true, if_false]
      cases l : ltB a p with
      | true => simp
      | false =>
        simp only [Bool.false_eq_true, if_false]
        have g : geB b p = true := by
          cases a <;> cases b <;> simp [ltB, geB] at i l ⊢ <;> omega
        rw [g, if_pos rfl] at Rn
        exact Rn.symm
theorem put_put {m : List Pc} (w : WF m) {s : Sn} (hs : spO s.1 s.2) (v : OI) : putM (putM m s v) s v = putM m s v := by
  refine wf_ext (put_wf (put_wf w hs v) hs v) (put_wf w hs v) fun p => ?_
  rw [put_vl (put_wf w hs v) hs, put_vl w hs]
  split <;> rfl
theorem putR_len (m : List Pc) (s : Sn) (v : OI) : (putR m s v).length ≤ 2 * m.length + 1 := by
  have h1 : ∀ a, (cutL m a).length ≤ m.length := fun a => by
    cases a with
    | none => exact Nat.zero_le _
    | some a => unfold cutL; rw [List.length_map]; exact cutM_len _ _
  have h2 : ∀ a, (cutG m a).length ≤ m.length := fun a => by
    cases a with
    | none => exact Nat.zero_le _
    | some a => unfold cutG; rw [List.length_map]; exact cutM_len _ _
  unfold putR
  have := h1 s.1
  have := h2 s.2
  rw [List.length_append, List.length_cons]
  omega
theorem putM_len (m : List Pc) (s : Sn) (v : OI) : (putM m s v).length ≤ 2 * m.length + 1 := Nat.le_trans (knitM_len _) (putR_len m s v)
end Eg
namespace Eg
theorem hiB_mono {p q : Int} {r : Pc} (h : hiB p r = false) (hpq : p ≤ q) : hiB q r = false := by
  obtain ⟨a, b, c⟩ := r
  cases b <;> simp [hiB] at h ⊢
  omega
theorem vl_drop {m : List Pc} {p : Int} : ∀ {k : Nat}, WF m → k ≤ m.length → (∀ i r, i < k → m[i]? = some r → hiB p r = false) → vl m p = vl (m.drop k) p := by
  induction m with
  | nil => intro k _ _ _; simp
  | cons r m ih =>
    intro k w hk h
    cases k with
    | zero => rfl
    | succ k =>
      have h0 := h 0 r (Nat.succ_pos _) rfl
      rw [vl_cons w, inS_bh, h0, Bool.and_false, if_neg Bool.false_ne_true]
      rw [List.drop_succ_cons]
      exact ih (wf_cons.mp w).2.2 (by simpa using hk) fun i r' hi e => h (i + 1) r' (by omega) (by simpa using e)
theorem wf_drop {m : List Pc} (w : WF m) (k : Nat) : WF (m.drop k) :=
  ⟨w.1.sublist (List.drop_sublist _ _), fun p hp => w.2 p (List.mem_of_mem_drop hp)⟩
/-- what a pointer at the first piece that ends behind the place tells -/
theorem vl_at {m : List Pc} {p : Int} {k : Nat} (w : WF m) (hk : k ≤ m.length) (h : ∀ i r, i < k → m[i]? = some r → hiB p r = false) (h2 : ∀ r, m[k]? = some r → hiB p r = true) : vl m p = match m[k]? with | none => none | some r => if bgn p r = true then some r.2.2 else none := by
  rw [vl_drop w hk h]
  by_cases c : k < m.length
  · have e : m[k]? = some m[k] := List.getElem?_eq_getElem c
    have wd := wf_drop w k
    rw [List.drop_eq_getElem_cons c] at wd ⊢
    rw [e]
    simp only
    have hb := h2 _ e
    by_cases d : bgn p m[k] = true
    · rw [vl_head wd (by rw [inS_bh, d, hb]; rfl), if_pos d]
    · rw [vl_before wd (by simpa using d), if_neg d]
  · have e : m[k]? = none := List.getElem?_eq_none (by omega)
    rw [e, List.drop_of_length_le (by omega)]
    rfl
end Eg

/-! Exceptions: raise, try .. except X as e, isinstance of the caught one. -/
namespace Eg
open PySem L2
/-! ### the class facts -/
structure ClsT (K : PySem.W.Frag) (mg : Str → Option Value) (x : Str) (C : Addr) : Prop where
  g : mg x = some (.ref C)
/-- a class that may be raised -/
structure RaiT (K : PySem.W.Frag) (C : Addr) : Prop where
  ex : PySem.W.excIn K C [.type "ValueError", .type "Exception", .type "BaseException", .type "object"] "ValueError.__new__" = true
  kp : PySem.W.keepIn K (.ref C) = true
  sb : PySem.W.subIn K (.ref C) (.type "BaseException") = some true
  ty : PySem.W.typeIn K (.ref C) = some (.type "type")
/-- class 0 is the base of all, no other stands under another -/
def subc (c t : Nat) : Bool := t == 0 || c == t
/-- what is known of the classes Ds, asked against the first n -/
structure XT (K : PySem.W.Frag) (Z : Stc) (Ds : List Nat) (n : Nat) : Prop where
  ec : ∀ c ∈ Ds, ExcC K (Z.cls c)
  one : ∀ c ∈ Ds, ∀ t, t < n → PySem.W.kitOne K (.ref (Z.cls c)) (.ref (Z.cls t)) = some (subc c t)
  exm : ∀ c ∈ Ds, ∀ t, t < n → PySem.W.exmOne K (.ref (Z.cls c)) (.ref (Z.cls t)) = some (subc c t)
  ve : ∀ c ∈ Ds, PySem.W.kitOne K (.ref (Z.cls c)) (.type "ValueError") = some true
theorem xt_nil {K : PySem.W.Frag} {Z : Stc} {n : Nat} : XT K Z [] n := ⟨fun _ h => (by cases h), fun _ h => (by cases h), fun _ h => (by cases h), fun _ h => (by cases h)⟩
theorem xt_cons {K : PySem.W.Frag} {Z : Stc} {n c : Nat} {Ds : List Nat} (h1 : ExcC K (Z.cls c)) (h2 : ∀ t, t < n → PySem.W.kitOne K (.ref (Z.cls c)) (.ref (Z.cls t)) = some (subc c t)) (h3 : ∀ t, t < n → PySem.W.exmOne K (.ref (Z.cls c)) (.ref (Z.cls t)) = some (subc c t))
    (h4 : PySem.W.kitOne K (.ref (Z.cls c)) (.type "ValueError") = some true) (x : XT K Z Ds n) : XT K Z (c :: Ds) n :=
  ⟨fun d h => (List.mem_cons.mp h).elim (fun e => e ▸ h1) (x.ec d), fun d h => (List.mem_cons.mp h).elim (fun e => e ▸ h2) (x.one d), fun d h => (List.mem_cons.mp h).elim (fun e => e ▸ h3) (x.exm d), fun d h => (List.mem_cons.mp h).elim (fun e => e ▸ h4) (x.ve d)⟩
theorem kit_sub {K : PySem.W.Frag} {D C : Addr} {b : Bool} (hd : PySem.W.hasDictIn K C = true) (ht : PySem.W.typeIn K (.ref C) = some (.type "type")) (hs : PySem.W.subIn K (.ref D) (.ref C) = some b) (he : D = C → b = true) : PySem.W.kitOne K (.ref D) (.ref C) = some b := by
  unfold PySem.W.kitOne
  by_cases e : (Value.ref D == Value.ref C) = true
  · rw [if_pos e]
    have e2 : D = C := Value.ref.inj (beq_iff_eq.mp e)
    rw [he e2]
  · rw [if_neg e]
    unfold PySem.W.kitCls
    obtain ⟨cd, hc, _⟩ := PySem.W.any_some hd
    have q : ((PySem.W.clsIn K C).isSome && PySem.W.typeIn K (.ref C) == some (.type "type")) = true := by rw [hc, ht] <;> rfl
    simp only [q, if_true]
    exact hs
theorem kit_ve {K : PySem.W.Frag} {D : Addr} (hs : PySem.W.subIn K (.ref D) (.type "ValueError") = some true) : PySem.W.kitOne K (.ref D) (.type "ValueError") = some true := by
  unfold PySem.W.kitOne
  rw [if_neg (by intro z; have := beq_iff_eq.mp z; cases this)]
  unfold PySem.W.kitCls
  have q : PySem.W.kitMeta "ValueError" = true := by decide +kernel
  simp only [q, if_true]
  exact hs
/-! ### raise -/
@[simp] def dRaise (c : Nat) : DS := fun env st => .exc c [] env st
section
variable {Z : Stc} {X : Cx} {W : WX}
theorem ms_raise {c : Nat} {x m : Str} {j : Nat} {p p2 pos pos2 : Pos} (hc : X.calm = true) (tk : Takes X W) (g : X.mg x = some (.ref (Z.cls c))) (r : RaiT X.K (Z.cls c)) (hg : Gl X x := by rfl) (hdb : (x == ("__debug__" : Str)) = false := by decide) :
    MS Z X W (.Raise (some (.Call (.Name x p) [.Constant (.str m) j p2] [] pos)) none pos2) (dRaise c) := by
  refine ⟨_, ps_raise hc tk (pmk_own PySem.F.excBase_ValueError r.ex g r.kp (raises_own r.sb r.ty) hg hdb), fun S σ H env st D sr p => ?_⟩
  exact p (.ref (Z.cls c)) none S σ H (ExtS.refl ..) sr ⟨rfl, .inl ⟨rfl, rfl⟩⟩
/-! ### try -/
def unS : Option Slot → Option Slot
  | some (.exn _) => none
  | s => s
@[simp] theorem unS_none : unS none = none := rfl
@[simp] theorem unS_val (v) : unS (some (.val v)) = some (.val v) := rfl
@[simp] theorem unS_own (v) : unS (some (.own v)) = some (.own v) := rfl
@[simp] theorem unS_brw (v) : unS (some (.brw v)) = some (.brw v) := rfl
@[simp] theorem unS_ownd (k v) : unS (some (.ownd k v)) = some (.ownd k v) := rfl
@[simp] theorem unS_brwd (k v) : unS (some (.brwd k v)) = some (.brwd k v) := rfl
@[simp] theorem unS_lkd (k v) : unS (some (.lkd k v)) = some (.lkd k v) := rfl
@[simp] theorem unS_exn (c) : unS (some (.exn c)) = none := rfl
@[simp] def unX (env : Evn) : Evn := env.map unS
theorem unS_some {s : Option Slot} {t : Slot} (h : unS s = some t) : s = some t ∧ ∀ c, t ≠ .exn c := by
  cases s with
  | none => cases h
  | some s => cases s <;> first | (cases h; exact ⟨rfl, fun _ z => by cases z⟩) | cases h
theorem unX_get {env : Evn} {i : Nat} {t : Slot} (h : (unX env)[i]? = some (some t)) : env[i]? = some (some t) ∧ ∀ c, t ≠ .exn c := by
  simp only [unX, List.getElem?_map] at h
  cases e : env[i]? with
  | none => rw [e] at h; cases h
  | some s =>
    rw [e] at h
    have h' : unS s = some t := by simpa using h
    obtain ⟨q, r⟩ := unS_some h'
    rw [q]
    exact ⟨rfl, r⟩
/-- behind the suite: the name's slot is empty -/
@[simp] def unO (i : Nat) : OutS → OutS
  | .nx e st => .nx (unX (e.set i none)) st
  | .bk e st => .bk (unX (e.set i none)) st
  | .ct e st => .ct (unX (e.set i none)) st
  | .rt r st => .rt r st
  | _ => .bad
def tryO (Ds : List Nat) (n k i : Nat) (su : Nat → DS) : OutS → OutS
  | .exc c [] e st => if Ds.contains c = true ∧ k < n ∧ i < e.length then (if subc c k = true then unO i (su c ((unX e).set i (some (.exn c))) st) else .exc c [] e st) else .bad
  | .exc _ _ _ _ => .bad
  | o => o
@[simp] theorem tryO_nx (Ds n k i su e st) : tryO Ds n k i su (.nx e st) = .nx e st := rfl
@[simp] theorem tryO_rt (Ds n k i su r st) : tryO Ds n k i su (.rt r st) = .rt r st := rfl
@[simp] theorem tryO_bk (Ds n k i su e st) : tryO Ds n k i su (.bk e st) = .bk e st := rfl
@[simp] theorem tryO_ct (Ds n k i su e st) : tryO Ds n k i su (.ct e st) = .ct e st := rfl
@[simp] theorem tryO_exc (Ds n k i su c e st) : tryO Ds n k i su (.exc c [] e st) = if Ds.contains c = true ∧ k < n ∧ i < e.length then (if subc c k = true then unO i (su c ((unX e).set i (some (.exn c))) st) else .exc c [] e st) else .bad := rfl
@[simp] def dTry (Ds : List Nat) (n k i : Nat) (b : DS) (su : Nat → DS) : DS := fun env st => tryO Ds n k i su (b env st)
end
section
variable {K : PySem.W.Frag} {Z : Stc} {S : Gh} {H : Hp} {W : WX}
/-- the address of the caught one alone is told anew -/
abbrev Stc.at (Z : Stc) (a : Addr) : Stc := { Z with ea := a }
mutual
theorem Rep.at {a : Addr} : ∀ (v : Val) (x : V), Rep K Z S v x → Rep K (Z.at a) S v x
  | .non, _, h => by simpa only [Rep] using h
  | .bl _, _, h => by simpa only [Rep] using h
  | .int _, _, h => by simpa only [Rep] using h
  | .str _, _, h => by simpa only [Rep] using h
  | .tup vs, x, h => by
    simp only [Rep] at h ⊢
    obtain ⟨b, xs, e, q, r⟩ := h
    exact ⟨b, xs, e, q, RepL.at vs xs r⟩
  | .lst vs, x, h => by
    simp only [Rep] at h ⊢
    obtain ⟨b, xs, e, q, r⟩ := h
    exact ⟨b, xs, e, q, RepL.at vs xs r⟩
  | .slst vs, x, h => by
    simp only [Rep] at h ⊢
    obtain ⟨b, xs, e, q, r⟩ := h
    exact ⟨b, xs, e, q, RepL.at vs xs r⟩
  | .dic ks vs, x, h => by
    simp only [Rep] at h ⊢
    obtain ⟨b, xs, e, q, k, r⟩ := h
    exact ⟨b, xs, e, q, k, RepL.at vs _ r⟩
  | .obj i, x, h => by simpa only [Rep] using h
  | .fn n, x, h => by simpa only [Rep] using h
theorem RepL.at {a : Addr} : ∀ (vs : List Val) (xs : List V), RepL K Z S vs xs → RepL K (Z.at a) S vs xs
  | [], _, h => by simpa only [RepL] using h
  | v :: vs, xs, h => by
    simp only [RepL] at h ⊢
    obtain ⟨x, r, e, h1, h2⟩ := h
    exact ⟨x, r, e, Rep.at v x h1, RepL.at vs r h2⟩
end
theorem Rep.of {a : Addr} {v : Val} {x : V} (h : Rep K (Z.at a) S v x) : Rep K Z S v x := Rep.at (Z := Z.at a) (a := Z.ea) v x h
theorem RepL.of {a : Addr} {v : List Val} {x : List V} (h : RepL K (Z.at a) S v x) : RepL K Z S v x := RepL.at (Z := Z.at a) (a := Z.ea) v x h
theorem SlR.at {a : Addr} {s : Slot} {x : V} (h : SlR K Z S H s x) (hn : ∀ c, s ≠ .exn c) : SlR K (Z.at a) S H s x := by
  cases s with
  | val v => exact Rep.at v x h
  | exn c => exact absurd rfl (hn c)
  | fnv g => exact h
  | own vs => obtain ⟨l, xs, e1, q, g, r⟩ := h; exact ⟨l, xs, e1, q, g, RepL.at _ _ r⟩
  | brw vs => obtain ⟨l, xs, e1, q, r⟩ := h; exact ⟨l, xs, e1, q, RepL.at _ _ r⟩
  | ownd ks vs => obtain ⟨l, xs, e1, q, g, k, r⟩ := h; exact ⟨l, xs, e1, q, g, k, RepL.at _ _ r⟩
  | brwd ks vs => obtain ⟨l, xs, e1, q, k, r⟩ := h; exact ⟨l, xs, e1, q, k, RepL.at _ _ r⟩
  | lkd ks vs => obtain ⟨l, xs, e1, q, k, r⟩ := h; exact ⟨l, xs, e1, q, k, RepL.at _ _ r⟩
theorem ObR.at {a : Addr} {i : Nat} {o : Ob} (r : ObR K Z S H i o) : ObR K (Z.at a) S H i o := by
  rcases r with ⟨b, dx, fs, hc, ha, hd', hh, hf⟩ | ⟨vs, e, b, xs, ha, hd', hh, hf⟩ | ⟨ks, vs, e, b, kxs, ha, hd', hh, hk, hf⟩ | ⟨e, b, ha, hd'⟩
  · exact .ins b dx fs hc ha hd' hh ⟨hf.1, RepL.at _ _ hf.2⟩
  · exact .lst vs e b xs ha hd' hh (RepL.at _ _ hf)
  · exact .dic ks vs e b kxs ha hd' hh hk (RepL.at _ _ hf)
  · exact .no e b ha hd'
theorem StR.at {a : Addr} {st : Store} (h : StR K Z S H st) : StR K (Z.at a) S H st :=
  ⟨h.tab, h.len, h.nd, h.dl, fun i o e => (h.ob i o e).at⟩
theorem StR.of {a : Addr} {st : Store} (h : StR K (Z.at a) S H st) : StR K Z S H st := StR.at (Z := Z.at a) (a := Z.ea) h
/-- all slots but those of caught ones -/
theorem SR.un {σ env st} (r : SR K Z S σ H env st) (a : Addr) : SR K (Z.at a) S σ H (unX env) st :=
  ⟨r.wf, r.str.at, by simp only [unX, List.length_map]; exact r.len, fun i s h => by
    obtain ⟨h1, h2⟩ := unX_get h
    obtain ⟨x, k1, k2⟩ := r.sl i s h1
    exact ⟨x, k1, k2.at h2⟩, fun i j si sj l nij h1 o1 h2 a2 q1 q2 => r.sep i j si sj l nij (unX_get h1).1 o1 (unX_get h2).1 a2 q1 q2⟩
theorem SR.unOf {σ env st} {a : Addr} (r : SR K (Z.at a) S σ H env st) : SR K Z S σ H (unX env) st := SR.un (Z := Z.at a) r Z.ea
theorem extS_unX (S : Gh) (H : Hp) (env : Evn) (σ : St) : ExtS S H env σ S H (unX env) σ :=
  ⟨⟨[], by simp⟩, Same.refl _, fun a h => .inl h, fun _ _ h _ _ => h, fun _ h => h, fun _ h => .inl h,
    fun a ⟨i, s, e, o, q⟩ => .inl ⟨i, s, (unX_get e).1, o, q⟩, by simp only [unX, List.length_map], fun i s h _ _ => ⟨(unX_get h).1, rfl⟩⟩
theorem SR.setNone {σ env st} (r : SR K Z S σ H env st) (i : Nat) : SR K Z S (σ.set i none) H (env.set i none) st := by
  have key : ∀ {j : Nat} {s : Slot}, (env.set i none)[j]? = some (some s) → j ≠ i ∧ env[j]? = some (some s) := fun {j s} h => by
    by_cases e : j = i
    · subst e
      by_cases hl : j < env.length
      · rw [List.getElem?_set_self hl] at h; cases h
      · rw [List.getElem?_eq_none (by simpa using hl)] at h; cases h
    · rw [List.getElem?_set_ne (Ne.symm e)] at h
      exact ⟨e, h⟩
  refine ⟨r.wf, r.str, by rw [List.length_set, List.length_set]; exact r.len, fun j s h => ?_, fun j k sj sk l njk h1 o1 h2 a2 q1 q2 => ?_⟩
  · obtain ⟨nj, h'⟩ := key h
    obtain ⟨x, k1, k2⟩ := r.sl j s h'
    exact ⟨x, (List.getElem?_set_ne (Ne.symm nj)).trans k1, k2⟩
  · obtain ⟨nj, h1'⟩ := key h1
    obtain ⟨nk, h2'⟩ := key h2
    rw [List.getElem?_set_ne (Ne.symm nj)] at q1
    rw [List.getElem?_set_ne (Ne.symm nk)] at q2
    exact r.sep j k sj sk l njk h1' o1 h2' a2 q1 q2
theorem extS_setNone (S : Gh) (H : Hp) (env : Evn) (σ : St) (i : Nat) : ExtS S H env σ S H (env.set i none) (σ.set i none) := by
  have key : ∀ {j : Nat} {s : Slot}, (env.set i none)[j]? = some (some s) → j ≠ i ∧ env[j]? = some (some s) := fun {j s} h => by
    by_cases e : j = i
    · subst e
      by_cases hl : j < env.length
      · rw [List.getElem?_set_self hl] at h; cases h
      · rw [List.getElem?_eq_none (by simpa using hl)] at h; cases h
    · rw [List.getElem?_set_ne (Ne.symm e)] at h
      exact ⟨e, h⟩
  refine ⟨⟨[], by simp⟩, Same.refl _, fun a h => .inl h, fun _ _ h _ _ => h, fun _ h => h, fun _ h => .inl h, fun a ⟨j, s, e, o, q⟩ => ?_, List.length_set, fun j s h _ _ => ?_⟩
  · obtain ⟨nj, e'⟩ := key e
    rw [List.getElem?_set_ne (Ne.symm nj)] at q
    exact .inl ⟨j, s, e', o, q⟩
  · obtain ⟨nj, e'⟩ := key h
    exact ⟨e', List.getElem?_set_ne (Ne.symm nj)⟩
theorem RRs.of {env σ H0 r x} {a : Addr} (h : RRs K (Z.at a) env σ H0 S H r x) : RRs K Z env σ H0 S H r x := by
  cases r with
  | val v => exact Rep.of (a := a) h
  | own vs => obtain ⟨l, xs, e1, e2, e3, e4, e5⟩ := h; exact ⟨l, xs, e1, e2, e3, e4, RepL.of e5⟩
  | ownd ks vs => obtain ⟨l, xs, e1, e2, e3, e4, k, e5⟩ := h; exact ⟨l, xs, e1, e2, e3, e4, k, RepL.of e5⟩
def tOfS (K : PySem.W.Frag) (Z : Stc) (W : WX) (d : DS) : TS := fun D σ H => ∃ S env st, SR K Z S σ H env st ∧ PostS K Z S H env σ D W (d env st)
end
section
variable {Z : Stc} {X : Cx} {W : WX}
theorem pss_of {s : List Stmt} {d : DS} (h : MSs Z X W s d) : PSs X s (tOfS X.K Z W d) := by
  obtain ⟨t, h1, h2⟩ := h
  exact ⟨fun pins s σ H D I ⟨S, env, st, r, p⟩ => h1.run pins s σ H D I (h2 S σ H env st D r p)⟩
/-- what a suite makes of a caught one -/
def tSu (K : PySem.W.Frag) (Z : Stc) (Ds : List Nat) (su : Nat → DS) (a : Addr) (cls : Value) (d : Option Addr) : TS := fun D σ H => ∃ c, c ∈ Ds ∧ cls = .ref (Z.cls c) ∧ d = none ∧ tOfS K (Z.at a) W0 (su c) D σ H
theorem ms_try {Ds : List Nat} {n k i : Nat} {x nm : Str} {body suite : List Stmt} {b₀ : Stmt} {np pos pos' : Pos} {db : DS} {su : Nat → DS}
    (hs : X.stack = X.env :: X.outer) (hf : X.env.frame = some X.env.locals) (hN : X.N.Nodup) (hi : X.N[i]? = some nm) (hln : X.env.kindOf nm = some .local) (hc : Names X x (.ref (Z.cls k))) (tk : Takes X W) (xt : XT X.K Z Ds n)
    (hb : ∀ (W : WX) (pn : List (Addr × Obj)) (xe : Value → Shared → Prop), Takes (X.tr pn xe) W → PassesOwn (model X.prog X.w) X.A X.env xe → MSs Z (X.tr pn xe) W body db)
    (hsu : ∀ (a : Addr) (oe : Obj) (c : Nat) (pn : List (Addr × Obj)), c ∈ Ds → Zc (.ref (Z.cls c)) none oe → (∃ vs, oe.data = .fields vs) → MSs (Z.at a) (X.suite a ((a, oe) :: pn)) W0 (b₀ :: suite) (su c)) :
    MS Z X W (.Try body [.ExceptHandler (some (.Name x np)) (some nm) (b₀ :: suite) pos'] [] [] pos) (dTry Ds n k i db su) := by
  refine ⟨_, ps_try_as (tb := fun W => tOfS X.K Z W db) (ts := tSu X.K Z Ds su) hs hf hN hi hln hc tk (fun W pn xe t p => pss_of (X := X.tr pn xe) (hb W pn xe t p)) (fun a oe cls d pn hz hv => ⟨fun pins s σ H D I h => ?_⟩), fun S σ H env st D r p => ?_⟩
  · obtain ⟨c, hcD, rfl, rfl, h⟩ := h
    exact (pss_of (X := X.suite a ((a, oe) :: pn)) (hsu a oe c pn hcD hz hv)).run pins s σ H D I h
  · refine ⟨S, env, st, r, ?_⟩
    simp only [dTry] at p
    cases e : db env st with
    | bad => simp only [e, tryO, PostS] at p
    | nx e1 s1 => simp only [e, tryO] at p; exact p
    | bk e1 s1 => simp only [e, tryO] at p; exact p
    | ct e1 s1 => simp only [e, tryO] at p; exact p
    | rt r1 s1 => simp only [e, tryO] at p; exact p
    | exc c fs e1 s1 =>
      cases fs with
      | cons f fs => simp only [e, tryO, PostS] at p
      | nil =>
        simp only [e, tryO] at p
        split at p
        case isFalse => exact p.elim
        rename_i hg
        obtain ⟨hcD, hk, hi'⟩ := hg
        have hcD' : c ∈ Ds := by simpa using hcD
        intro cls d S' σ' H' x1 r1 xr
        obtain ⟨rfl, hd⟩ := xr
        have hd0 : d = none := by
          rcases hd with hd | ⟨_, _, z, _⟩
          · exact hd.2
          · exact absurd rfl z
        refine ⟨subc c k, xt.exm c hcD' k hk, fun hb1 a na => ?_, fun hb0 => ?_⟩
        · rw [if_pos hb1] at p
          refine ⟨c, hcD', rfl, hd0, S', (unX e1).set i (some (.exn c)), s1, ?_, ?_⟩
          · have q := r1.un a
            exact q.set (s := .exn c) (x := .ref a) (by simpa only [unX, List.length_map] using hi') (show V.ref a = V.ref (Z.at a).ea from rfl) fun z => by cases z
          · have x2 : ExtS S H env σ S' H' ((unX e1).set i (some (.exn c))) (σ'.set i (some (.ref a))) := (x1.trans (extS_unX S' H' e1 σ')).set (s := .exn c) (fun z => by cases z) fun z => by cases z
            have p2 := p
            cases es : su c ((unX e1).set i (some (.exn c))) s1 with
            | bad => simp only [es, unO, PostS] at p2
            | exc c2 fs2 e2 s2 => simp only [es, unO, PostS] at p2
            | rt r2 s2 =>
              simp only [es, unO] at p2
              exact fun y S2 H2 x3 w3 s3 q3 => PostS.later x2 p2 y S2 H2 x3 w3 s3.of q3.of
            | nx e2 s2 =>
              simp only [es, unO] at p2
              exact fun S2 σ2 H2 x3 r3 => PostS.later x2 p2 S2 (σ2.set i none) H2 ((x3.trans (extS_setNone S2 H2 e2 σ2 i)).trans (extS_unX S2 H2 _ _)) (r3.setNone i).unOf
            | bk e2 s2 =>
              simp only [es, unO] at p2
              exact fun S2 σ2 H2 x3 r3 => PostS.later x2 p2 S2 (σ2.set i none) H2 ((x3.trans (extS_setNone S2 H2 e2 σ2 i)).trans (extS_unX S2 H2 _ _)) (r3.setNone i).unOf
            | ct e2 s2 =>
              simp only [es, unO] at p2
              exact fun S2 σ2 H2 x3 r3 => PostS.later x2 p2 S2 (σ2.set i none) H2 ((x3.trans (extS_setNone S2 H2 e2 σ2 i)).trans (extS_unX S2 H2 _ _)) (r3.setNone i).unOf
        · rw [if_neg (by rw [hb0]; exact Bool.false_ne_true)] at p
          exact p (.ref (Z.cls c)) d S' σ' H' x1 r1 ⟨rfl, hd⟩
end
/-! ### isinstance of the caught one -/
/-- class t of the program, or ValueError -/
def isE (c : Nat) : Option Nat → Bool
  | none => true
  | some t => subc c t
@[simp] def dIsE (n c i : Nat) (ts : List (Option Nat)) : DE := fun env st => match env[i]? with
  | some (some (.exn _)) => if (ts.all fun t => match t with | none => true | some t => decide (t < n)) = true then .ok (.val (.bl (ts.any (isE c)))) st else .bad
  | _ => .bad
def clV (Z : Stc) : Option Nat → V
  | none => .ty "ValueError"
  | some t => .ref (Z.cls t)
def clU (Z : Stc) : Option Nat → Value
  | none => .type "ValueError"
  | some t => .ref (Z.cls t)
theorem clV_cls (Z : Stc) (t : Option Nat) : ClsV (clV Z t) (clU Z t) := by
  cases t with
  | none => exact .ty _
  | some t => exact .own _
theorem clV_all (Z : Stc) : ∀ ts : List (Option Nat), Paired ClsV (ts.map (clV Z)) (ts.map (clU Z))
  | [] => .nil
  | t :: ts => .cons (clV_cls Z t) (clV_all Z ts)
/-- names of classes -/
inductive CL (Z : Stc) (X : Cx) : List Expr → List (Option Nat) → Prop where
  | nil : CL Z X [] []
  | own {x : Str} {p : Pos} {t : Nat} {es ts} (g : X.mg x = some (.ref (Z.cls t))) (hg : Gl X x) (hd : (x == ("__debug__" : Str)) = false) (h : CL Z X es ts) : CL Z X (.Name x p :: es) (some t :: ts)
  | ve {p : Pos} {es ts} (g : X.mg "ValueError" = none) (hg : Gl X "ValueError") (h : CL Z X es ts) : CL Z X (.Name "ValueError" p :: es) (none :: ts)
theorem CL.pa {Z : Stc} {X : Cx} : ∀ {es ts}, CL Z X es ts → PA X es (fun _ H Q => Q (ts.map (clV Z)) H)
  | _, _, .nil => pa_nil
  | _, _, .own (t := t) g hg hd h => pa_cons (pe_glob (v := clV Z (some t)) hg g rfl hd) h.pa
  | _, _, .ve g hg h => pa_cons (pe_bltn (v := clV Z none) (u := .type "ValueError") hg g (by decide +kernel) rfl) h.pa
section
variable {Z : Stc} {X : Cx} {a : Addr} {oe : Obj} {pn : List (Addr × Obj)}
/-- isinstance(e, c), isinstance(e, (c, d, ..)) -/
def rIsX (K : PySem.W.Frag) (Z : Stc) (c n : Nat) (a : Addr) : List V → Hp → VK → Prop := fun xs H Q => ∃ ts : List (Option Nat), (∀ t, some t ∈ ts → t < n) ∧ ((∃ t, ts = [t] ∧ xs = [.ref a, clV Z t]) ∨ ∃ tp, xs = [.ref a, .ref tp] ∧ H tp = some (.tup (ts.map (clV Z)))) ∧ Q (.bl (ts.any (isE c))) H
theorem kit_isE {K : PySem.W.Frag} {Ds : List Nat} {n c : Nat} (xt : XT K Z Ds n) (hc : c ∈ Ds) {t : Option Nat} (h : ∀ t', t = some t' → t' < n) : PySem.W.kitOne K (.ref (Z.cls c)) (clU Z t) = some (isE c t) := by
  cases t with
  | none => exact xt.ve c hc
  | some t => exact xt.one c hc t (h t rfl)
theorem kit_anyE {K : PySem.W.Frag} {Ds : List Nat} {n c : Nat} (xt : XT K Z Ds n) (hc : c ∈ Ds) : ∀ {ts : List (Option Nat)}, (∀ t, some t ∈ ts → t < n) → PySem.W.kitAny K (.ref (Z.cls c)) (ts.map (clU Z)) = some (ts.any (isE c))
  | [], _ => rfl
  | t :: ts, h => by
    have h1 := kit_isE xt hc (t := t) fun t' e => h t' (by rw [e]; exact List.mem_cons_self)
    have h2 := kit_anyE xt hc (ts := ts) fun t' e => h t' (List.mem_cons_of_mem _ e)
    rw [List.map_cons, List.any_cons]
    refine kitAny_cons h1 (fun e => ?_) fun e => ?_
    · rw [h2, e]; rfl
    · rw [e]; rfl
theorem call_isX {Ds : List Nat} {n c : Nat} (xt : XT X.K Z Ds n) (hc : c ∈ Ds) (hz : Zc (.ref (Z.cls c)) none oe) (hf : ∃ vs, oe.data = .fields vs) : CallR (X.suite a ((a, oe) :: pn)) (.builtin "isinstance") (rIsX X.K Z c n a) := by
  intro pins s σ H xs us Q I r h
  obtain ⟨ts, hts, hx, q⟩ := h
  have C := xt.ec c hc
  obtain ⟨hget, _⟩ := I.pin (a, oe) (List.mem_append.mpr (.inl List.mem_cons_self))
  obtain ⟨vs, hv⟩ := hf
  have J : PySem.W.InstAt s.heap a oe (Z.cls c) none := by
    obtain ⟨oc, od, oda, osl⟩ := oe
    obtain ⟨h1, h2⟩ := hz
    dsimp only at h1 h2 hv
    subst h1 h2 hv
    exact ⟨hget, rfl, rfl, trivial⟩
  rcases hx with ⟨t, rfl, rfl⟩ | ⟨tp, rfl, hT⟩
  · obtain ⟨u1, u2, rfl, r1, r2⟩ := vals2 r
    cases (show u1 = Value.ref a from r1)
    have e2 := (clV_cls Z t).eq r2
    subst e2
    refine PySem.W.kia_one (PySem.W.handS_kitx_exc C.hg C.hk C.hs C.hd C.ha C.hn C.ht C.hm) I.kIn J (kit_isE xt hc fun t' e => hts t' (by rw [e]; exact List.mem_cons_self)) (fun z => nomatch z) fun tk => ⟨.bl _, H, I.kept (t' := tk) fun _ _ z => z, rfl, ?_⟩
    simpa using q
  · obtain ⟨u1, u2, rfl, r1, r2⟩ := vals2 r
    cases (show u1 = Value.ref a from r1)
    cases (show u2 = Value.ref tp from r2)
    obtain ⟨_, its, rv, o, h1, h2, n', h3⟩ := (show ObjOk X.prog X.w H s.heap tp (.tup (ts.map (clV Z))) from I.hok tp _ hT)
    have e3 := ClsV.all (clV_all Z ts) rv
    subst e3
    obtain ⟨oc, od, dt, sl⟩ := o
    simp only at h2 h3
    subst h2 h3
    exact PySem.W.kia_tup (PySem.W.handS_kitx_exc C.hg C.hk C.hs C.hd C.ha C.hn C.ht C.hm) I.kIn J h1 (kit_anyE xt hc hts) (fun z => nomatch z) fun tk => ⟨.bl _, H, I.kept (t' := tk) fun _ _ z => z, rfl, q⟩
theorem dIsE_some {n c i : Nat} {ts : List (Option Nat)} {env : Evn} {st : Store} {K : PySem.W.Frag} {S : Gh} {H : Hp} {Q : V → Hp → Prop} {Wq : Value → Option Addr → Hp → Prop} {RP : Gh → Hp → R → V → Prop} (p : Post K Z S H RP Q Wq (dIsE n c i ts env st)) :
    (∃ c', env[i]? = some (some (.exn c'))) ∧ (∀ t, some t ∈ ts → t < n) ∧ Post K Z S H RP Q Wq (.ok (.val (.bl (ts.any (isE c)))) st) := by
  unfold dIsE at p
  split at p
  · rename_i c' e
    split at p
    · rename_i h
      refine ⟨⟨c', e⟩, fun t ht => ?_, p⟩
      have := List.all_eq_true.mp h _ ht
      simpa using this
    · exact p.elim
  · exact p.elim
theorem me_isE1 {Ds : List Nat} {n c i : Nat} {en : Str} {e2 : Expr} {t : Option Nat} {p pe pos : Pos} (xt : XT X.K Z Ds n) (hc : c ∈ Ds) (hz : Zc (.ref (Z.cls c)) none oe) (hf : ∃ vs, oe.data = .fields vs) (hm : X.mg "isinstance" = none)
    (hv : PE (X.suite a ((a, oe) :: pn)) (.Name en pe) (tVar i)) (hcl : CL Z (X.suite a ((a, oe) :: pn)) [e2] [t]) (hg : Gl X "isinstance" := by rfl) (hs : starEach [.Name en pe, e2] X.env = (false, eval (.Name en pe) X.env) :: starEach [e2] X.env := by rfl)
    (hpl : (backTo pos (starEach [e2] X.env)).any (·.1) = false := by rfl) :
    ME (Z.at a) (X.suite a ((a, oe) :: pn)) W0 (.Call (.Name "isinstance" p) [.Name en pe, e2] [] pos) (dIsE n c i [t]) := by
  refine ⟨_, pe_callB (X := X.suite a ((a, oe) :: pn)) (call_isX (X := X) (a := a) (pn := pn) xt hc hz hf) hg hm (by decide +kernel) (pa_cons (X := X.suite a ((a, oe) :: pn)) hv hcl.pa hs) (he := hs) (hpl := hpl), fun S σ H env st Q r p => ?_⟩
  obtain ⟨⟨c', e⟩, h1, p2⟩ := dIsE_some p
  obtain ⟨x, k1, k2⟩ := r.sl i _ e
  refine ⟨x, k1, ?_⟩
  have ex : x = V.ref a := k2
  rw [ex]
  exact ⟨[t], h1, .inl ⟨t, rfl, rfl⟩, p2 _ S H (Ext.refl _ _) r.wf r.str (by simp only [rpE, RR, Rep])⟩
theorem me_isET {Ds : List Nat} {n c i k1 : Nat} {en : Str} {es : List Expr} {ts : List (Option Nat)} {p pe pt pos : Pos} (xt : XT X.K Z Ds n) (hc : c ∈ Ds) (hz : Zc (.ref (Z.cls c)) none oe) (hf : ∃ vs, oe.data = .fields vs) (hm : X.mg "isinstance" = none)
    (hv : PE (X.suite a ((a, oe) :: pn)) (.Name en pe) (tVar i)) (hcl : CL Z (X.suite a ((a, oe) :: pn)) es ts) (hl : ts.length ≤ 1000 := by decide) (hg : Gl X "isinstance" := by rfl) (hs : starEach [.Name en pe, .Tuple es k1 pt] X.env = (false, eval (.Name en pe) X.env) :: starEach [.Tuple es k1 pt] X.env := by rfl)
    (hs2 : starEach [.Tuple es k1 pt] X.env = (false, eval (.Tuple es k1 pt) X.env) :: starEach [] X.env := by rfl)
    (hpl : (backTo pos (starEach [.Tuple es k1 pt] X.env)).any (·.1) = false := by rfl) :
    ME (Z.at a) (X.suite a ((a, oe) :: pn)) W0 (.Call (.Name "isinstance" p) [.Name en pe, .Tuple es k1 pt] [] pos) (dIsE n c i ts) := by
  refine ⟨_, pe_callB (X := X.suite a ((a, oe) :: pn)) (call_isX (X := X) (a := a) (pn := pn) xt hc hz hf) hg hm (by decide +kernel) (pa_cons (X := X.suite a ((a, oe) :: pn)) hv (pa_cons (X := X.suite a ((a, oe) :: pn)) (pe_tup hcl.pa) pa_nil hs2) hs) (he := hs) (hpl := hpl), fun S σ H env st Q r p => ?_⟩
  obtain ⟨⟨c', e⟩, h1, p2⟩ := dIsE_some p
  obtain ⟨x, k1, k2⟩ := r.sl i _ e
  refine ⟨x, k1, ?_⟩
  have ex : x = V.ref a := k2
  rw [ex]
  refine ⟨small_line (by rw [List.length_map]; exact hl), fun tp hp => ?_⟩
  have x1 := ExtP.newF (o := .tup (ts.map (clV Z))) r.wf hp trivial
  exact ⟨ts, h1, .inr ⟨tp, rfl, upd_same⟩, p2 _ _ _ x1.ext x1.wf (r.str.extP x1) (by simp only [rpE, RR, Rep])⟩
end
end Eg
namespace Eg
open PySem L2
/-- a promise whatever the static addresses are -/
def spA (K : PySem.W.Frag) (D : FD) (n : Nat) (T : List NdefX.NTab := []) : Sp := fun vs H Q E => NdefX.TabsN T H ∧ ∀ Z : Stc, Z.T = T → spD K Z D n vs H Q E
theorem fn_all {P : Program} {w : World} {K : PySem.W.Frag} {mg : Str → Option Value} {base : Heap} {CX : CXT} {k : Nat} {f : Addr} {fd : FuncData} {ps : List Str} {Z : Stc} {D : FD} {n : Nat} (F : FnOk P w K mg base CX k f fd ps (spD K Z D n)) : FnOk P w K mg base CX k f fd ps (spA K D n Z.T) := F.imp fun _ _ _ _ h => h.2 Z rfl
theorem law_spA {K : PySem.W.Frag} {D : FD} {H : Hp} {a : Addr} {ns : List Int} (hS : SqL K H a (ns.map V.int)) (h : ∃ st, D [.val (.slst (ns.map Val.int))] [] = .ok (.val (.bl true)) st) :
    spA K D 1 [] [.ref a] H (fun v _ => v = .bl true) fun _ _ _ => False := ⟨fun _ z => (nomatch z), fun Z e => law_sp (by rw [e]; exact fun _ z => (nomatch z)) hS h⟩
theorem law_spT {K : PySem.W.Frag} {D : FD} {H : Hp} {a : Addr} {ns : List Int} {T : List NdefX.NTab} (hT : NdefX.TabsN T H) (hS : SqL K H a (ns.map V.int)) (h : ∃ st, D [.val (.slst (ns.map Val.int))] [] = .ok (.val (.bl true)) st) :
    spA K D 1 T [.ref a] H (fun v _ => v = .bl true) fun _ _ _ => False := ⟨hT, fun Z e => law_sp (by rw [e]; exact hT) hS h⟩
/-! ### a module's constants -/
section
variable {Z : Stc} {X : Cx} {W : WX}
theorem me_gint {x : Str} {i : Int} {pos : Pos} (h : ∃ t, X.mg x = some (.int i t)) (hg : Gl X x := by rfl) (hd : (x == ("__debug__" : Str)) = false := by decide) : ME Z X W (.Name x pos) (dC (.int i)) := by
  obtain ⟨t, h⟩ := h
  exact me_const (pe_glob (v := .int i) hg h ⟨t, rfl⟩ hd) fun _ => by simp only [Rep]
theorem me_gstr {x : Str} {i : Str} {pos : Pos} (h : ∃ t, X.mg x = some (.str i t)) (hg : Gl X x := by rfl) (hd : (x == ("__debug__" : Str)) = false := by decide) : ME Z X W (.Name x pos) (dC (.str i)) := by
  obtain ⟨t, h⟩ := h
  exact me_const (pe_glob (v := .str i) hg h ⟨t, rfl⟩ hd) fun _ => by simp only [Rep]
end
end Eg
namespace Eg
open PySem L2
theorem bdc_bd {i : Int} {n : Nat} [h : BdC i n] : Bd n i := h.bd
instance bdTen (k : Nat) : BdC ((10 : Int) ^ k) (4 * k + 1) := ⟨by
  rw [Int.natAbs_pow]
  show 10 ^ k < 2 ^ (4 * k + 1)
  rw [Nat.pow_succ, Nat.pow_mul]
  have := Nat.pow_le_pow_left (show 10 ≤ 2 ^ 4 by decide) k
  have h2 : 0 < (2 ^ 4) ^ k := Nat.pow_pos (by decide)
  omega⟩
/-- the place of an item of a range -/
theorem range_at {n a : Nat} {pre post : List Nat} (e : pre ++ a :: post = List.range n) : a = pre.length := by
  have h := congrArg (·[pre.length]?) e
  have hl : pre.length < n := by
    have := congrArg List.length e
    simp at this
    omega
  simp [hl] at h
  exact h
end Eg
namespace Eg
theorem bd_zero (n : Nat) : Bd n 0 := Nat.two_pow_pos n
end Eg
namespace Eg
theorem seq_nx {a b : DS} {E E' : Evn} {st st' : Store} (h : a E st = .nx E' st') : dSeq a b E st = b E' st' := by
  simp only [dSeq, h, thn_nx]
theorem seq_rt {a b : DS} {E : Evn} {r : R} {st st' : Store} (h : a E st = .rt r st') : dSeq a b E st = .rt r st' := by
  simp only [dSeq, h, thn_rt]
end Eg

/-! in, index over nested data; methods of built-in types; divmod; insert. -/
namespace Eg
open PySem L2
mutual
/-- data of numbers, None, truths, tuples and lists, no texts -/
def datI : Nat → Val → Bool
  | _, .non => true
  | _, .bl _ => true
  | _, .int _ => true
  | n + 1, .tup vs => datIs n vs
  | n + 1, .lst vs => datIs n vs
  | _, _ => false
def datIs : Nat → List Val → Bool
  | _, [] => true
  | n, v :: vs => datI n v && datIs n vs
end
theorem datIs_iff {n : Nat} : ∀ {vs : List Val}, datIs n vs = true ↔ ∀ v ∈ vs, datI n v = true
  | [] => by simp [datIs]
  | v :: vs => by simp [datIs, datIs_iff (vs := vs)]
mutual
theorem datI_dat : ∀ (n : Nat) (v : Val), datI n v = true → dat n v = true
  | n, .non, _ => by cases n <;> rfl
  | n, .bl _, _ => by cases n <;> rfl
  | n, .int _, _ => by cases n <;> rfl
  | 0, .tup _, h => by simp [datI] at h
  | 0, .lst _, h => by simp [datI] at h
  | n + 1, .tup vs, h => datIs_dat n vs (by simpa [datI] using h)
  | n + 1, .lst vs, h => datIs_dat n vs (by simpa [datI] using h)
  | n, .str _, h => by cases n <;> simp [datI] at h
  | n, .dic _ _, h => by cases n <;> simp [datI] at h
  | n, .obj _, h => by cases n <;> simp [datI] at h
  | n, .fn _, h => by cases n <;> simp [datI] at h
  | n, .slst _, h => by cases n <;> simp [datI] at h
theorem datIs_dat : ∀ (n : Nat) (vs : List Val), datIs n vs = true → vs.all (dat n) = true
  | _, [], _ => rfl
  | n, v :: vs, h => by
    have h' : datI n v = true ∧ datIs n vs = true := by simpa [datIs] using h
    simp only [List.all_cons, datI_dat n v h'.1, datIs_dat n vs h'.2, Bool.and_self]
end
mutual
theorem datI_lay : ∀ (n : Nat) (v : Val), datI n v = true → (toPD v).canLay0 = true
  | n, .non, _ => by simp [toPD, PyData.canLay0]
  | n, .bl _, _ => by simp [toPD, PyData.canLay0]
  | n, .int _, _ => by simp [toPD, PyData.canLay0]
  | 0, .tup _, h => by simp [datI] at h
  | 0, .lst _, h => by simp [datI] at h
  | n + 1, .tup vs, h => by
    have := datIs_lay n vs (by simpa [datI] using h)
    simpa [toPD, PyData.canLay0] using this
  | n + 1, .lst vs, h => by
    have := datIs_lay n vs (by simpa [datI] using h)
    simpa [toPD, PyData.canLay0] using this
  | n, .str _, h => by cases n <;> simp [datI] at h
  | n, .dic _ _, h => by cases n <;> simp [datI] at h
  | n, .obj _, h => by cases n <;> simp [datI] at h
  | n, .fn _, h => by cases n <;> simp [datI] at h
  | n, .slst _, h => by cases n <;> simp [datI] at h
theorem datIs_lay : ∀ (n : Nat) (vs : List Val), datIs n vs = true → PyData.canLayAll0 (toPDs vs) = true
  | _, [], _ => by simp [toPDs, PyData.canLayAll0]
  | n, v :: vs, h => by
    have h' : datI n v = true ∧ datIs n vs = true := by simpa [datIs] using h
    simp [toPDs, PyData.canLayAll0, datI_lay n v h'.1, datIs_lay n vs h'.2]
end
theorem datI_shaped {n : Nat} {v : Val} (h : datI n v = true) (hn : n ≤ 64) : SeqAt.shaped (toPD v) = true := by
  unfold SeqAt.shaped
  rw [datI_lay n v h]
  have := (plain_dat n v (datI_dat n v h)).2
  simp only [Bool.true_and, decide_eq_true_eq]
  omega
theorem toPDs_map : ∀ vs : List Val, toPDs vs = vs.map toPD
  | [] => by simp [toPDs]
  | v :: vs => by simp [toPDs, toPDs_map vs]
@[simp] def gInD (v w : Val) : Option R := match w with
  | .lst vs => if datI 7 v = true ∧ datIs 7 vs = true then some (.val (.bl (inW v vs))) else none
  | _ => none
@[simp] def gNotInD (v w : Val) : Option R := match w with
  | .lst vs => if datI 7 v = true ∧ datIs 7 vs = true then some (.val (.bl (!inW v vs))) else none
  | _ => none
theorem any_pd {v : Val} (hv : datI 7 v = true) : ∀ {vs : List Val}, datIs 7 vs = true → (toPDs vs).any (fun z => PyData.eqv z (toPD v)) = inW v vs
  | [], _ => by simp [toPDs, inW]
  | w :: vs, h => by
    have h' : datI 7 w = true ∧ datIs 7 vs = true := by simpa [datIs] using h
    simp only [toPDs, List.any_cons, inW]
    rw [eqv_pd w v ⟨7, datI_dat 7 w h'.1⟩ ⟨7, datI_dat 7 v hv⟩, any_pd hv h'.2]
    rfl
section
variable {Z : Stc} {X : Cx} {W : WX}
theorem os_inD (hu : X.A.units + 65 < cLine) : OpS Z X (compareOp .In) gInD := by
  intro pins s σ H x y v u Q I rx ry ⟨S, a, b, r, w, pa, pb, eg, q⟩
  unfold gInD at eg
  split at eg
  · rename_i vs
    split at eg
    · rename_i hf
      cases eg
      have hl : datI 8 (.lst vs) = true := by simpa [datI] using hf.2
      refine op_inD hu pins s σ H x y v u Q I rx ry ⟨toPD a, toPDs vs, dp_prep w (datI_dat 7 a hf.1) pa, ?_, datI_shaped hf.1 (by decide), ?_, ?_⟩
      · have := dp_prep w (datI_dat 8 _ hl) pb
        simpa [toPD] using this
      · have := datI_shaped hl (by decide)
        simpa [toPD] using this
      · rw [any_pd hf.1 hf.2]
        exact q_val w q (by simp only [Rep])
    · cases eg
  · cases eg
theorem os_notInD (hu : X.A.units + 65 < cLine) : OpS Z X (compareOp .NotIn) gNotInD := by
  intro pins s σ H x y v u Q I rx ry ⟨S, a, b, r, w, pa, pb, eg, q⟩
  unfold gNotInD at eg
  split at eg
  · rename_i vs
    split at eg
    · rename_i hf
      cases eg
      have hl : datI 8 (.lst vs) = true := by simpa [datI] using hf.2
      refine op_notInD hu pins s σ H x y v u Q I rx ry ⟨toPD a, toPDs vs, dp_prep w (datI_dat 7 a hf.1) pa, ?_, datI_shaped hf.1 (by decide), ?_, ?_⟩
      · have := dp_prep w (datI_dat 8 _ hl) pb
        simpa [toPD] using this
      · have := datI_shaped hl (by decide)
        simpa [toPD] using this
      · rw [any_pd hf.1 hf.2]
        exact q_val w q (by simp only [Rep])
    · cases eg
  · cases eg
theorem room65 {k : Nat} {A : Around} (r : Room k A) : A.units + 65 < cLine := by have := r.un; omega
/-! ### methods of built-in types -/
def rM (K : PySem.W.Frag) (Z : Stc) (g : Val → List Val → Option R) : V → List V → Hp → VK → Prop := fun x xs H Q => ∃ S v vs r, Wf S H ∧ PRep K Z S H v x ∧ PRepL K Z S H vs xs ∧ g v vs = some r ∧ ∀ x' S' H', ExtP S H S' H' → RR K Z S' H H' r x' → Q x' H'
@[simp] def dBM (g : Val → List Val → Option R) (d : DP) (ds : List DP) : DE := fun env st => (d env st).bind fun v st => (dVals ds env st).bind fun vs st => fromO (g v vs) st
/-- values of a built-in type -/
def ofTy : String → Val → Bool
  | "list", .lst _ => true
  | "str", .str _ => true
  | _, _ => false
theorem ofTy_tyV {K : PySem.W.Frag} {Z : Stc} {S : Gh} {H : Hp} {T : String} {v : Val} {x : V} (w : Wf S H) (h : ofTy T v = true) (p : PRep K Z S H v x) : tyV K T x H := by
  unfold ofTy at h
  split at h
  · obtain ⟨l, xs, rfl, hl, _⟩ := p
    exact tyV_lst hl
  · rename_i z
    have e : x = V.str z := by simpa only [PRep, Rep] using p
    rw [e]
    rfl
  · cases h
theorem snd_bm {K : PySem.W.Frag} {to : TE} {ta : TA} {T : String} {g : Val → List Val → Option R} {d : DP} {ds : List DP} {r2 : V → List V → Hp → VK → Prop} (ho : Snd K Z W (rpP K Z) to d) (ha : Snd K Z W (rpPs K Z) ta (dVals ds)) (im : ∀ x xs H Q, rM K Z g x xs H Q → r2 x xs H Q) :
    Snd K Z W (rpE K Z) (tBM K T r2 to ta) (fun env st => (d env st).bind fun v st => if ofTy T v = true then (dVals ds env st).bind fun vs st => fromO (g v vs) st else .bad) := by
  refine snd_bind (RPb := rpE K Z) (tb := fun x σ H Q => tyV K T x H ∧ ta σ H fun xs H2 => r2 x xs H2 Q) (db := fun v env st => if ofTy T v = true then (dVals ds env st).bind fun vs st => fromO (g v vs) st else .bad) ho ?_
  intro S σ H env st Q v x S1 H1 st1 r e1 r1 p1 po
  by_cases hT : ofTy T v = true
  · rw [if_pos hT] at po
    refine ⟨ofTy_tyV r1.wf hT p1.p, ha S1 σ H1 env st1 _ r1 ?_⟩
    cases e : dVals ds env st1 with
    | bad => simp only [e, Out.bind, Post] at po
    | exc c fs st2 =>
      simp only [e, Out.bind, Post] at po ⊢
      exact po
    | ok vs st2 =>
      simp only [e, Out.bind, Post] at po ⊢
      intro xs S2 H2 e2 w2 s2 p2
      cases eg : g v vs with
      | none => simp only [eg, fromO, Post] at po
      | some res =>
        simp only [eg, fromO, Post] at po
        refine im _ _ _ _ ⟨S2, v, vs, res, w2, (PRepS.ext r1.wf e2 p1).p, p2.p, eg, fun x' S' H' e3 rr => ?_⟩
        exact po x' S' H' (e2.trans e3.ext) e3.wf (s2.extP e3) (rr.back fun a h => e2.live a (e1.live a h))
  · rw [if_neg hT] at po
    exact po.elim
@[simp] def dBMe (T : String) (g : Val → List Val → Option R) (d : DP) (ds : List DP) : DE := fun env st => (d env st).bind fun v st => if ofTy T v = true then (dVals ds env st).bind fun vs st => fromO (g v vs) st else .bad
@[simp] theorem ofTy_lst (vs) : ofTy "list" (.lst vs) = true := rfl
@[simp] theorem ofTy_str (vs) : ofTy "str" (.str vs) = true := rfl
theorem me_bm {o e : Expr} {es : List Expr} {name : Str} {apos cpos : Pos} {T id : String} {g : Val → List Val → Option R} {d : DP} {ds : List DP} {r2 : V → List V → Hp → VK → Prop} (pa : PlainAttrs T) (slot : PySem.Slot T name id) (hty : typeOf (.builtin id) = pure (.type "method_descriptor"))
    (hm : MtR X id r2) (im : ∀ x xs H Q, rM X.K Z g x xs H Q → r2 x xs H Q) (ho : MP Z X W o d) (ha : MPs Z X W (e :: es) (dVals ds))
    (hbase : attributeBase o name X.env (eval o X.env) = eval o X.env := by rfl)
    (hfew : ((backTo cpos (starEach (e :: es) X.env)).all (fun x => !x.1) && (backToKw cpos (keywordEach [] X.env)).all (fun x => x.1.isSome)
      && decide ((e :: es).length + ([] : List Keyword).length + (if ([] : List Keyword).isEmpty then 0 else 1) < 30)) = true := by rfl)
    (hline : (apos.endLine == cpos.line) = true := by rfl) (hs : starEach (e :: es) X.env = (false, eval e X.env) :: starEach es X.env := by rfl) (hplain : (backTo cpos (starEach es X.env)).any (·.1) = false := by rfl) :
    ME Z X W (.Call (.Attribute o name apos) (e :: es) [] cpos) (dBMe T g d ds) := by
  obtain ⟨to, h1, h2⟩ := ho
  obtain ⟨ta, h3, h4⟩ := ha
  exact ⟨_, pe_bm pa slot hty hm h1 h3 hbase hfew hline hs hplain, snd_bm h2 h4 im⟩
/-! xs.index(x) -/
@[simp] def gIndex : Val → List Val → Option R
  | .lst vs, [v] => if datI 7 v = true ∧ datIs 7 vs = true then (vs.findIdx? fun z => eqv z v).map fun j : Nat => .val (.int (j : Int)) else none
  | _, _ => none
theorem pds_get {vs : List Val} {j : Nat} {z' : PyData} (h : (toPDs vs)[j]? = some z') : ∃ z, vs[j]? = some z ∧ z' = toPD z := by
  rw [toPDs_map, List.getElem?_map] at h
  cases e : vs[j]? with
  | none => rw [e] at h; cases h
  | some z => rw [e] at h; cases h; exact ⟨z, rfl, rfl⟩
theorem im_index {K : PySem.W.Frag} (x : V) (xs : List V) (H : Hp) (Q : VK) (h : rM K Z gIndex x xs H Q) : rIndexD K x xs H Q := by
  obtain ⟨S, v, vs, r, w, pv, pvs, eg, q⟩ := h
  unfold gIndex at eg
  split at eg
  · rename_i ws u
    split at eg
    · rename_i hf
      obtain ⟨y, rfl, py⟩ := prep1 pvs
      cases e : ws.findIdx? (fun z => eqv z u) with
      | none => rw [e] at eg; cases eg
      | some j =>
        rw [e] at eg
        cases eg
        obtain ⟨hj, e1, e2⟩ := List.findIdx?_eq_some_iff_getElem.mp e
        have hl : datI 8 (.lst ws) = true := by simpa [datI] using hf.2
        have dl := dp_prep w (datI_dat 8 _ hl) pv
        obtain ⟨l, zs, rfl, hz, rl⟩ := id pv
        have all := datIs_iff.mp hf.2
        refine ⟨l, y, toPD u, toPDs ws, j, toPD ws[j], rfl, rfl, by simpa [toPD] using dl, dp_prep w (datI_dat 7 u hf.1) py, by simpa [toPD] using datI_shaped hl (by decide), datI_shaped hf.1 (by decide), ?_, ?_, ?_, ?_⟩
        · rw [toPDs_map, List.getElem?_map, List.getElem?_eq_getElem hj]; rfl
        · rw [eqv_pd _ u ⟨7, datI_dat 7 _ (all _ (List.getElem_mem hj))⟩ ⟨7, datI_dat 7 u hf.1⟩]
          exact e1
        · intro m z' hm hz'
          obtain ⟨z, hz1, rfl⟩ := pds_get hz'
          have hml : m < ws.length := (List.getElem?_eq_some_iff.mp hz1).1
          rw [eqv_pd z u ⟨7, datI_dat 7 _ (all _ (List.mem_of_getElem? hz1))⟩ ⟨7, datI_dat 7 u hf.1⟩]
          have := e2 m hm
          have ez : ws[m] = z := by rw [List.getElem?_eq_getElem hml] at hz1; exact Option.some.inj hz1
          rw [ez] at this
          simpa using this
        · exact q_val w q (by simp only [Rep])
    · cases eg
  · cases eg
theorem me_index {o e : Expr} {apos cpos : Pos} {d d1 : DP} (hu : X.A.units + 65 < cLine) (ho : MP Z X W o d) (ha : MPs Z X W [e] (dVals [d1]))
    (hbase : attributeBase o "index" X.env (eval o X.env) = eval o X.env := by rfl)
    (hfew : ((backTo cpos (starEach [e] X.env)).all (fun x => !x.1) && (backToKw cpos (keywordEach [] X.env)).all (fun x => x.1.isSome)
      && decide ([e].length + ([] : List Keyword).length + (if ([] : List Keyword).isEmpty then 0 else 1) < 30)) = true := by rfl)
    (hline : (apos.endLine == cpos.line) = true := by rfl) (hs : starEach [e] X.env = (false, eval e X.env) :: starEach [] X.env := by rfl) (hplain : (backTo cpos (starEach [] X.env)).any (·.1) = false := by rfl) :
    ME Z X W (.Call (.Attribute o "index" apos) [e] [] cpos) (dBMe "list" gIndex d [d1]) :=
  me_bm PySem.F.plainAttrs_list PySem.F.slot_list_index PySem.F.type_list_index (mt_indexD hu) im_index ho ha hbase hfew hline hs hplain
/-! divmod -/
@[simp] def gDivmod : List Val → Option R
  | [.int i, .int j] => if divOk j then some (.val (.tup [.int (i / j), .int (i % j)])) else none
  | _ => none
theorem cs_divmod : CallR X (.builtin "divmod") (rC X.K Z gDivmod) := by
  intro pins s σ H xs us Q I rs ⟨S, vs, r, w, pr, eg, q⟩
  unfold gDivmod at eg
  split at eg
  · rename_i i j
    split at eg
    · rename_i hj
      cases eg
      obtain ⟨x, y, rfl, p1, p2⟩ := prep2 pr
      have e1 := (show x = V.int i by simpa only [PRep, Rep] using p1)
      have e2 := (show y = V.int j by simpa only [PRep, Rep] using p2)
      have hc' : 0 < j ∧ j.natAbs.log2 < 9000 := of_decide_eq_true hj
      refine call_divmodW pins s σ H _ us Q I rs ⟨i, j, by rw [e1, e2], ⟨hc'.1, PyProof.noPylong_of_log2 hc'.2⟩, fun p hp => ?_⟩
      refine q _ (S.add p (.tup [.int (i / j), .int (i % j)])) _ (ExtP.newF w hp trivial) ?_
      simp only [RR, Rep]
      exact ⟨p, _, rfl, .inl (.inl upd_same), repL_cons (by simp only [Rep]) (repL_cons (by simp only [Rep]) repL_nil)⟩
    · cases eg
  · cases eg
/-! x.insert(i, e) -/
@[simp] def dInsert (i : Nat) (k d : DP) : DS := fun env st => match env[i]? with
  | some (some (.own vs)) => dExpS (k env st) env fun kv st => dExpS (d env st) env fun v st => match kv with
    | .int j => if vs.length < sizeLine ∧ 0 ≤ j ∧ j < 2 ^ 63 then .nx (env.set i (some (.own (vs.take j.toNat ++ [v] ++ vs.drop j.toNat)))) st else .bad
    | _ => .bad
  | _ => .bad
theorem ms_insert {i : Nat} {x : Str} {ke e : Expr} {k d : DP} {p apos cpos pos : Pos} (hx : PE X (.Name x p) (tVar i)) (hk : MP Z X W ke k) (h : MV Z X W e d)
    (hs : swapsWith (.Call (.Attribute (.Name x p) "insert" apos) [ke, e] [] cpos) none pos.line X.env = pure false := by rfl)
    (hbase : attributeBase (.Name x p) "insert" X.env (eval (.Name x p) X.env) = eval (.Name x p) X.env := by rfl)
    (hfew : ((backTo cpos (starEach [ke, e] X.env)).all (fun x => !x.1) && (backToKw cpos (keywordEach [] X.env)).all (fun x => x.1.isSome)
      && decide ([ke, e].length + ([] : List Keyword).length + (if ([] : List Keyword).isEmpty then 0 else 1) < 30)) = true := by rfl)
    (hline : (apos.endLine == cpos.line) = true := by rfl) (hst : starEach [ke, e] X.env = (false, eval ke X.env) :: starEach [e] X.env := by rfl) (hst2 : starEach [e] X.env = (false, eval e X.env) :: starEach [] X.env := by rfl) (hplain : (backTo cpos (starEach [e] X.env)).any (·.1) = false := by rfl) :
    MS Z X W (.Expr (.Call (.Attribute (.Name x p) "insert" apos) [ke, e] [] cpos) pos) (dInsert i k d) := by
  obtain ⟨t, h1, h2⟩ := h
  obtain ⟨tk, h3, h4⟩ := hk
  refine ⟨_, ps_expr (pe_bm PySem.F.plainAttrs_list PySem.F.slot_list_insert PySem.F.type_list_insert mt_insert hx (pa_cons h3 (pa_cons h1 pa_nil hst2) hst) hbase hfew hline hst hplain) hs, fun S σ H env st D r p => ?_⟩
  unfold dInsert at p
  split at p
  · rename_i vs ei
    obtain ⟨x, k1, k2⟩ := r.sl i _ ei
    obtain ⟨l, xs, rfl, hl, g, rl⟩ := id k2
    refine ⟨_, k1, tyV_lst hl, h4 S σ H env st _ r ?_⟩
    refine PostS.of_any (RP := rpP X.K Z H) r p fun kv st1 ky S1 H1 e1 r1 qk p1 => ?_
    refine h2 S1 σ H1 env st1 _ r1 ?_
    have p1' := p1.later (e1.toS env σ)
    refine PostS.of_any (RP := rpV X.K Z H1) r1 p1' fun v st' y S' H' e2 r2 q p' => ?_
    obtain ⟨x2, k3, k4⟩ := r2.sl i _ ei
    rw [k1] at k3
    cases k3
    obtain ⟨l', xs', el, hl', g', rl'⟩ := k4
    cases el
    split at p'
    · rename_i j
      by_cases hz : vs.length < sizeLine ∧ 0 ≤ j ∧ j < 2 ^ 63
      · rw [if_pos hz] at p'
        have ek : ky = V.int j := by simpa only [PRep, Rep] using qk.p
        refine ⟨l, xs', j, y, rfl, by rw [ek], hl', by rw [← repL_length rl']; exact hz.1, hz.2.1, hz.2.2, ?_⟩
        obtain ⟨r3, e3⟩ := r2.write (o := .lst (xs'.take j.toNat ++ [y] ++ xs'.drop j.toNat)) (s' := .own (vs.take j.toNat ++ [v] ++ vs.drop j.toNat)) ei rfl k1 ⟨_, hl', trivial⟩ g' rfl
          ⟨l, _, rfl, upd_same, g', repL_append (repL_append (repL_take _ rl') (repL_cons q repL_nil)) (repL_drop _ rl')⟩
        exact p' S' σ _ ((e2.toS env σ).trans e3) r3
      · rw [if_neg hz] at p'
        exact p'.elim
    · exact p'.elim
  · exact p.elim
end
end Eg

/-! sorted(rows, key=rank): rank(p) is (0, 0) where p[0] is None, else (1, p[0]). -/
namespace Eg
open PySem PySem.W PySem.Calls PyProof.Rows
/-- the text of rank -/
def rkBody (a1 a2 a3 a4 a5 a6 a7 a8 a9 a10 a11 a12 a13 a14 a15 a16 : Pos) (k1 k2 k3 k4 k5 k6 x1 x2 : Nat) : List Stmt :=
  [.If (.Compare (.Subscript (.Name "piece" a1) (.Constant (.int 0) k1 a2) a3) [.Is] [.Constant .none k2 a4] a5) [.Return (some (.Tuple [.Constant (.int 0) k3 a6, .Constant (.int 0) k4 a7] x1 a8)) a9] [] a10,
   .Return (some (.Tuple [.Constant (.int 1) k5 a11, .Subscript (.Name "piece" a12) (.Constant (.int 0) k6 a13) a14] x2 a15)) a16]
/-- the key of a thing whose first item is this -/
def rx : Option Int → Int
  | none => 0
  | some _ => 1
def ry : Option Int → Int
  | none => 0
  | some l => l
def rkK (o : Option Int) : PyData := .tuple [.int (rx o), .int (ry o)]
/-- None or a whole number -/
def OiV : Option Int → Value → Prop
  | none, v => v = .none
  | some l, v => ∃ t, v = .int l t
theorem ldR {M : Model} {s : Shared} {name : Str} {scope : Scope} {L a : Addr} {cd : Value} {m : Str → Option Value} {x : Str} {pos : Pos} {v : Value} {Q : Value → Shared → Prop} {A : Around} {E : Value → Shared → Prop} (hn : s.heap.Ns L m) (hv : m x = some v) (h : Q v s)
    (hk : scope.kind = .function) (hl : scope.names.lookup x = some .local) (hd : (x == ("__debug__" : Str)) = false := by decide) :
    wpAny M A (eval (.Name x pos) (envOfC name scope L a cd)) Q E s := wpAny_Name (wpAny_loadName_local hk hl hn hv h) hd
section
variable {prog : Program} {w : World} {A : Around} {E : Value → Shared → Prop} {s : Shared} {K : Frag}
theorem first_item {name : Str} {scope : Scope} {L a : Addr} {cd : Value} {m : Str → Option Value} {t : Addr} {u : Value} {us : List Value} {k : Nat} {p1 p2 p3 : Pos} {Q : Value → Shared → Prop} (hn : s.heap.Ns L m) (hv : m "piece" = some (.ref t)) (ht : IsTup s.heap t (u :: us).toArray) (hl : (u :: us).length < 1000)
    (hk : scope.kind = .function) (hlo : scope.names.lookup ("piece" : Str) = some .local) (h : ∀ tk, Q u { s with toks := tk }) :
    wpAny (model prog w) A (eval (.Subscript (.Name "piece" p1) (.Constant (.int 0) k p2) p3) (envOfC name scope L a cd)) Q E s := by
  refine wpAny_Subscript_Constant_late (ldR hn hv (wpAny_Constant_int ?_) hk hlo)
  refine ⟨"tuple", _, slot_tuple_getitem.lookup, ht.typeIs, getItem_tuple (j := 0) (x := u) ht (by decide) (by decide) ?_ (by simp) (h _)⟩
  have e : (u :: us).toArray.size = us.length + 1 := by simp
  rw [e]
  unfold seqIndex?
  simp
theorem rank_call {f : Addr} {fd : FuncData} {st : Stmt} {t : Addr} {us : List Value} {o : Option Int} {u : Value} {R : Result → Shared → Prop} (F : L2.Fun K "rank" "rank" st f fd)
    (hb : ∃ a1 a2 a3 a4 a5 a6 a7 a8 a9 a10 a11 a12 a13 a14 a15 a16 k1 k2 k3 k4 k5 k6 x1 x2, L2.defBody st = rkBody a1 a2 a3 a4 a5 a6 a7 a8 a9 a10 a11 a12 a13 a14 a15 a16 k1 k2 k3 k4 k5 k6 x1 x2)
    (sk : (L2.defScope st).kind = .function) (sl : (L2.defScope st).names.lookup ("piece" : Str) = some .local) (sc : (L2.defScope st).isCoroutine = false) (sg : (L2.defScope st).isGenerator = false)
    (hbind : BindsTo s fd ⟨[.ref t], []⟩ [("piece", .ref t)]) (X : K.In s.heap) (hlim : s.heap.NoLimit) (hroom : A.depth < recursionLimit) (ht : IsTup s.heap t (u :: us).toArray) (hl : (u :: us).length < 1000) (ho : OiV o u)
    (hR : ∀ h' tk x, (∀ b o, s.heap.get? b = some o → h'.get? b = some o) → Reads h' x (rkK o) [] → R (.ok (.ret x)) { s with heap := h', toks := tk }) :
    codeAny (model prog w) A (.call (.ref f) ⟨[.ref t], []⟩) R s := by
  obtain ⟨oc, od, kV, doc, pm, an, cdv, ct, osl, rfl, lk, hcd⟩ := F.ex
  obtain ⟨a1, a2, a3, a4, a5, a6, a7, a8, a9, a10, a11, a12, a13, a14, a15, a16, k1, k2, k3, k4, k5, k6, x1, x2, hb⟩ := hb
  rw [hb] at lk hbind
  refine Att.call_fn (binds := [("piece", .ref t)]) X hlim lk hcd hroom hbind (by simp [sl]) (fun s₁ IC => ?_) sc sg sk
  obtain ⟨h₁, tk₁, rfl⟩ := IC.toInCall.same
  have k : ∀ b o, s.heap.get? b = some o → h₁.get? b = some o := IC.toInCall.keep
  have hn := IC.toInCall.ns
  have ht₁ := ht.keeps k
  have hk : (envOfC "rank" (L2.defScope st) s.heap.objs.size f cdv).kindOf "piece" = some .local := sl
  have hv : bindL (envOfC "rank" (L2.defScope st) s.heap.objs.size f cdv).kindOf [("piece", .ref t)] (fun _ => none) "piece" = some (.ref t) := by
    simp [bindL, hk]
  have push : ∀ (s2 : Shared) (vs : List Value) (d : PyData), s2.heap = h₁ → Reads (s2.heap.push { cls := .type "tuple", data := .seq vs.toArray }) (.ref s2.heap.objs.size) d [] → d = rkK o →
      R (.ok (.ret (.ref s2.heap.objs.size))) { s with heap := s2.heap.push { cls := .type "tuple", data := .seq vs.toArray }, toks := s2.toks } := fun s2 vs d e r ed => by
    subst ed
    exact hR _ _ _ (fun b ob q => Heap.get?_push_of_some _ (by rw [e]; exact k b ob q)) r
  show wpAny _ _ (execs _ _) _ _ _
  refine wpAny_execs_cons (wpAny_If (wpAny_isTrue_Compare1 ?_))
  refine first_item (s := { s with heap := h₁, toks := tk₁ }) hn hv ht₁ hl sk sl fun tk2 => wpAny_Constant_none (is_none_gen (wpAny_truthy_bool ?_))
  cases o with
  | none =>
    have eu : u = Value.none := ho
    subst eu
    show wpAny _ _ (execs _ _) _ _ _
    refine wpAny_execs_cons (wpAny_Return_some (wpAny_Tuple ?_))
    refine wpAny_items_cons (wpAny_Constant_int (wpAny_items_cons (wpAny_Constant_int (spliced_nil ?_))))
    refine ⟨by show 2 ≤ sizeLine; rw [sizeLine_eq]; decide, ?_⟩
    refine push _ _ (.tuple [.int 0, .int 0]) rfl ?_ rfl
    exact .tuple (Heap.get?_push_size _ rfl) rfl rfl (.cons (as := []) (bs := []) (.int _ _) (.cons (as := []) (bs := []) (.int _ _) .nil))
  | some l =>
    obtain ⟨tl, eu⟩ := ho
    subst eu
    show wpAny _ _ (execs [] _) _ _ _
    refine wpAny_execs_nil ?_
    refine wpAny_execs_cons (wpAny_Return_some (wpAny_Tuple ?_))
    refine wpAny_items_cons (wpAny_Constant_int (wpAny_items_cons ?_))
    refine first_item (s := { s with heap := h₁, toks := tk2 + 1 }) hn hv ht₁ hl sk sl fun tk3 => spliced_nil ?_
    refine ⟨by show 2 ≤ sizeLine; rw [sizeLine_eq]; decide, ?_⟩
    refine push _ _ (.tuple [.int 1, .int l]) rfl ?_ rfl
    exact .tuple (Heap.get?_push_size _ rfl) rfl rfl (.cons (as := []) (bs := []) (.int _ _) (.cons (as := []) (bs := []) (.int _ _) .nil))
end
end Eg
namespace Eg
open PySem L2
/-- the first item of a tuple, None or a number -/
def rkV : Val → Option (Option Int)
  | .tup (.non :: r) => if r.length < 900 then some none else none
  | .tup (.int l :: r) => if r.length < 900 then some (some l) else none
  | _ => none
def rkO (v : Val) : Option Int := (rkV v).getD none
def leR (a b : Val) : Bool := decide (rx (rkO a) < rx (rkO b) ∨ (rx (rkO a) = rx (rkO b) ∧ ry (rkO a) ≤ ry (rkO b)))
noncomputable def sortR (vs : List Val) : List Val := vs.mergeSort leR
noncomputable def gSortR : List Val → Option R
  | [.lst vs] => if vs.all (fun v => (rkV v).isSome) = true ∧ vs.length ≤ sizeLine then some (.own (sortR vs)) else none
  | _ => none
/-- what is known of rank -/
structure RankT (K : PySem.W.Frag) (mg : Str → Option Value) : Prop where
  ex : ∃ f st fd, L2.Fun K "rank" "rank" st f fd ∧ (∃ a1 a2 a3 a4 a5 a6 a7 a8 a9 a10 a11 a12 a13 a14 a15 a16 k1 k2 k3 k4 k5 k6 x1 x2, L2.defBody st = rkBody a1 a2 a3 a4 a5 a6 a7 a8 a9 a10 a11 a12 a13 a14 a15 a16 k1 k2 k3 k4 k5 k6 x1 x2) ∧
    (L2.defScope st).kind = .function ∧ (L2.defScope st).names.lookup ("piece" : Str) = some .local ∧ (L2.defScope st).isCoroutine = false ∧ (L2.defScope st).isGenerator = false ∧ Binds K fd ["piece"] [] ∧ mg "rank" = some (.ref f)
theorem repL_pairs {K : PySem.W.Frag} {Z : Stc} {S : Gh} : ∀ {l : List (Val × V)}, (∀ p ∈ l, Rep K Z S p.1 p.2) → RepL K Z S (l.map (·.1)) (l.map (·.2))
  | [], _ => repL_nil
  | p :: l, h => repL_cons (h p List.mem_cons_self) (repL_pairs fun q m => h q (List.mem_cons_of_mem _ m))
theorem repL_zip {K : PySem.W.Frag} {Z : Stc} {S : Gh} : ∀ {vs : List Val} {xs : List V}, RepL K Z S vs xs → ∀ p ∈ vs.zip xs, Rep K Z S p.1 p.2
  | [], _, _, p, h => by simp at h
  | v :: vs, xs, r, p, h => by
    obtain ⟨x, ys, rfl, r1, r2⟩ := repL_uncons r
    rw [List.zip_cons_cons] at h
    rcases List.mem_cons.mp h with rfl | h
    · exact r1
    · exact repL_zip r2 p h
theorem vals_each : ∀ {vs : List Val} {xs : List V} {us : List Value}, vs.length = xs.length → Vals xs us → PySem.W.EachIs (fun u (p : Val × V) => RelV p.2 u) us (vs.zip xs)
  | [], [], _, _, .nil => .nil
  | v :: vs, x :: xs, _, h, .cons r t => .cons r (vals_each (by simpa using h) t)
  | [], _ :: _, _, h, _ => by simp at h
  | _ :: _, [], _, h, _ => by simp at h
theorem each_vals : ∀ {us : List Value} {l : List (Val × V)}, PySem.W.EachIs (fun u (p : Val × V) => RelV p.2 u) us l → Vals (l.map (·.2)) us
  | _, _, .nil => .nil
  | _, _, .cons r t => .cons r (each_vals t)
section
variable {Z : Stc} {X : Cx} {W : WX}
def rSK (K : PySem.W.Frag) (Z : Stc) (f : Addr) : List V → List V → Hp → VK → Prop := fun xs zs H Q => ∃ S vs r, Wf S H ∧ PRepL K Z S H vs xs ∧ zs = [.ref f] ∧ gSortR vs = some r ∧ ∀ x' S' H', ExtP S H S' H' → RR K Z S' H H' r x' → Q x' H'
theorem cr_sortR {f : Addr} {st : Stmt} {fd : FuncData} (F : L2.Fun X.K "rank" "rank" st f fd)
    (hb : ∃ a1 a2 a3 a4 a5 a6 a7 a8 a9 a10 a11 a12 a13 a14 a15 a16 k1 k2 k3 k4 k5 k6 x1 x2, L2.defBody st = rkBody a1 a2 a3 a4 a5 a6 a7 a8 a9 a10 a11 a12 a13 a14 a15 a16 k1 k2 k3 k4 k5 k6 x1 x2)
    (sk : (L2.defScope st).kind = .function) (sl : (L2.defScope st).names.lookup ("piece" : Str) = some .local) (sc : (L2.defScope st).isCoroutine = false) (sg : (L2.defScope st).isGenerator = false) (hbd : Binds X.K fd ["piece"] []) {k : Nat} (hr : Room k X.A) :
    CallRK X (.builtin "sorted") [Str.ofString "key"] (rSK X.K Z f) := by
  intro pins s σ H xs zs us ws Q I rs rz ⟨S, vs, r, w, pr, ez, eg, q⟩
  subst ez
  unfold gSortR at eg
  split at eg
  · rename_i vals
    split at eg
    · rename_i hv
      cases eg
      obtain ⟨x, rfl, p1⟩ := prep1 pr
      obtain ⟨l, ys, rfl, hl, rl⟩ := p1
      have hs : SqL X.K H l ys := .inl (.inl hl)
      obtain ⟨its, rv, pl, hz⟩ := I.list hs
      obtain rfl := Vals.ref1 rs
      obtain ⟨u1, rfl, e1⟩ := vals1 rz
      obtain rfl : u1 = Value.ref f := e1
      have hlen := repL_length rl
      have e := vals_each hlen rv
      have hk : ∀ p ∈ vals.zip ys, (rkV p.1).isSome = true := fun p m => List.all_eq_true.mp hv.1 _ (List.of_mem_zip m).1
      refine PySem.W.sorted_key_data (b := false) (kw := [(Str.ofString "key", .ref f)]) (fun p : Val × V => .tuple [.int (rx (rkO p.1)), .int (ry (rkO p.1))]) pl.isList e (PySem.W.AllAlike.of fun _ _ => by simp [PySem.W.alike, PySem.W.alikeAll]) (PySem.W.Sortable.tuples fun _ => ⟨_, _, rfl⟩) ?_ (fun p _ => ?_) (PyProof.Rows.ksk_s1 _ _) (fun _ => PyProof.Rows.ksk_l1 _ _) (fun _ => PyProof.Rows.ksk_t1 _ _)
        (fun v p hR hp h tk kp => ?_) fun out c h' tk kp fresh hD hol eo => ?_
      · rw [List.length_zip, ← hlen, Nat.min_self]; exact hv.2
      · have hd : (PyData.tuple [.int (rx (rkO p.1)), .int (ry (rkO p.1))]).depth = 1 := by simp [PyData.depth, PyData.depthAll]
        have := hr.un
        omega
      · have hp1 := repL_zip rl p hp
        have hp2 := hk p hp
        obtain ⟨pv, px⟩ := p
        simp only at hp1 hp2 hR
        have go : ∀ (o : Option Int) (u : Val) (r : List Val), pv = .tup (u :: r) → r.length < 900 → rkO pv = o → (∀ x y, Rep X.K Z S u x → RelV x y → OiV o y) →
            PySem.wpAny (model X.prog X.w) X.A.in1.in1 (call (.ref f) [v]) (PySem.W.KeyPure (.tuple [.int (rx (rkO pv)), .int (ry (rkO pv))]) { s with heap := h, toks := tk }) (fun _ _ => False) { s with heap := h, toks := tk } := fun o u r e1 e2 e3 e4 => by
          subst e1
          simp only [Rep] at hp1
          obtain ⟨t, zs, ex, ht, rz⟩ := hp1
          subst ex
          obtain ⟨y, zs', rfl, ry1, ry2⟩ := repL_uncons rz
          obtain rfl : v = Value.ref t := hR
          obtain ⟨its2, rv2, tup, _⟩ := I.tuple (sqT_mono w.same ht)
          cases rv2 with
          | cons rh rt =>
            rename_i uh ut
            have hl2 : (uh :: ut).length < 1000 := by
              have h1 := rt.length
              have h2 := repL_length ry2
              simp only [List.length_cons]
              omega
            rw [e3]
            refine wpAny_call (rank_call (s := { s with heap := h, toks := tk }) F hb sk sl sc sg (hbd _ [.ref t] (I.kIn.keeps kp) rfl) (I.kIn.keeps kp) (I.nolimit.keeps kp) ?_ (tup.keeps kp) hl2 (e4 _ _ ry1 rh) fun h2 tk2 x k2 rd => ?_)
            · have := hr.dp
              show X.A.depth < recursionLimit
              omega
            · exact ⟨h2, tk2, rfl, k2, rd⟩
        cases pv with
        | tup vs =>
          cases vs with
          | nil => simp [rkV] at hp2
          | cons u r =>
            cases u with
            | non =>
              by_cases hl : r.length < 900
              · exact go none .non r rfl hl (by simp [rkO, rkV, hl]) fun x y h1 h2 => by
                  have ex : x = V.non := by simpa only [Rep] using h1
                  subst ex
                  exact h2
              · simp [rkV, hl] at hp2
            | int i =>
              by_cases hl : r.length < 900
              · exact go (some i) (.int i) r rfl hl (by simp [rkO, rkV, hl]) fun x y h1 h2 => by
                  have ex : x = V.int i := by simpa only [Rep] using h1
                  subst ex
                  exact h2
              · simp [rkV, hl] at hp2
            | _ => simp [rkV] at hp2
        | _ => simp [rkV] at hp2
      · rw [PySem.W.dataLe_ii (β := Val × V) (fun p => rx (rkO p.1)) (fun p => ry (rkO p.1))] at eo
        have e2 : (vals.zip ys).mergeSort (fun p q => decide (rx (rkO p.1) < rx (rkO q.1) ∨ (rx (rkO p.1) = rx (rkO q.1) ∧ ry (rkO p.1) ≤ ry (rkO q.1)))) = (vals.zip ys).mergeSort (fun p q => leR p.1 q.1) := rfl
        rw [e2] at eo
        have em : ((vals.zip ys).mergeSort (fun p q => leR p.1 q.1)).map (·.1) = sortR vals := by
          have q := PySem.W.sort_maps (r := fun p q : Val × V => leR p.1 q.1) (s := leR) (fun p : Val × V => p.1) (l := vals.zip ys) (fun _ _ _ _ => rfl)
          refine q.trans ?_
          unfold sortR
          rw [List.map_fst_zip (by omega)]
        have hmem : ∀ p ∈ (vals.zip ys).mergeSort (fun p q => leR p.1 q.1), Rep X.K Z S p.1 p.2 := fun p m => repL_zip rl p (List.mem_mergeSort.mp m)
        have hrl := repL_pairs hmem
        rw [em] at hrl
        have hlen2 : (((vals.zip ys).mergeSort (fun p q => leR p.1 q.1)).map (·.2)).length ≤ sizeLine := by
          rw [List.length_map, List.length_mergeSort, List.length_zip, ← hlen, Nat.min_self]; exact hv.2
        have hfr : H (s.heap.objs.size + 1) = none := I.hok.fresh (Nat.le_succ _)
        refine ⟨.ref (s.heap.objs.size + 1), upd H (s.heap.objs.size + 1) (.lst (((vals.zip ys).mergeSort (fun p q => leR p.1 q.1)).map (·.2))), I.laid (t' := tk) kp (Nat.le_succ _) ⟨hlen2, out, c, each_vals eo, ?_⟩, rfl, ?_⟩
        · rw [hD]
        · exact q _ S _ (ExtP.new w hfr) ⟨_, _, rfl, upd_same, ng_none w hfr, hfr, hrl⟩
    · cases eg
  · cases eg
theorem me_sortR {e : Expr} {d : DP} {p pk kp pos : Pos} {k : Nat} (RT : RankT X.K X.mg) (hr : Room k X.A) (hm : X.mg "sorted" = none) (ha : MPs Z X W [e] (dVals [d])) (hg : Gl X "sorted" := by rfl) (hgr : Gl X "rank" := by rfl)
    (he : backTo pos (starEach [e] X.env) = (false, eval e X.env) :: backTo pos (starEach [] X.env) := by rfl) (hpl : (backTo pos (starEach [e] X.env)).any (·.1) = false := by rfl)
    (hall : (backToKw pos (keywordEach [⟨some "key", .Name "rank" pk, kp⟩] X.env)).all (·.1.isSome) = true := by rfl) (hnone : (backToKw pos (keywordEach [⟨some "key", .Name "rank" pk, kp⟩] X.env)).any (·.1.isNone) = false := by rfl) (hks : (backToKw pos (keywordEach [⟨some "key", .Name "rank" pk, kp⟩] X.env)).filterMap (·.1) = [Str.ofString "key"] := by rfl) :
    ME Z X W (.Call (.Name "sorted" p) [e] [⟨some "key", .Name "rank" pk, kp⟩] pos) (dCB gSortR [d]) := by
  obtain ⟨f, st, fd, F, hb, sk, sl, sc, sg, hbd, hmg⟩ := RT.ex
  obtain ⟨t, h1, h2⟩ := ha
  refine ⟨_, pe_callBK (cr_sortR (Z := Z) F hb sk sl sc sg hbd hr) hg hm (by decide +kernel) h1 (pk_cons (pe_glob (v := .ref f) hgr hmg rfl) pk_nil) (he := he) (hpl := hpl) (hall := hall) (hnone := hnone) (hks := hks), ?_⟩
  refine snd_bind (RPb := rpE X.K Z) (tb := fun xs σ H Q => rSK X.K Z f xs [.ref f] H Q) (db := fun vs env st => fromO (gSortR vs) st) h2 ?_
  intro S σ H env st Q vs xs S1 H1 st1 r e1 r1 p1 po
  cases eg : gSortR vs with
  | none => simp only [eg, fromO, Post] at po
  | some res =>
    simp only [eg, fromO, Post] at po
    exact ⟨S1, vs, res, r1.wf, p1.p, rfl, eg, fun x' S' H' e4 rr => po x' S' H' e4.ext e4.wf (r1.str.extP e4) (rr.back e1.live)⟩
end
end Eg

/-! Maps 3: spans less spans, rows laid over one another, sorted by their low ends. -/
namespace Eg
open PySem L2
/-- a span and a value or None -/
abbrev Rs := Sn × OI
def trs (r : Rs) : Val := .tup [tsn r.1, oi r.2]
theorem eqv_trs (a b : Rs) : eqv (trs a) (trs b) = decide (a = b) := by
  obtain ⟨⟨a1, a2⟩, a3⟩ := a
  obtain ⟨⟨b1, b2⟩, b3⟩ := b
  simp [trs, tsn, Bool.decide_and]
@[simp] theorem dat7_trs (a : Rs) : dat 7 (trs a) = true := by simp [trs, tsn]
@[simp] theorem dat8_trss (l : List Rs) : dat 8 (.lst (l.map trs)) = true := dat_map dat7_trs l
@[simp] theorem gEq_trss (l l' : List Rs) : gEq (.lst (l.map trs)) (.lst (l'.map trs)) = some (.val (.bl (decide (l = l')))) := by
  rw [gEq_dat (dat8_trss l) (dat8_trss l'), eqv_lst, eqvs_map eqv_trs]
@[simp] theorem gNe_trss (l l' : List Rs) : gNe (.lst (l.map trs)) (.lst (l'.map trs)) = some (.val (.bl (!decide (l = l')))) := by
  rw [gNe_dat (dat8_trss l) (dat8_trss l'), eqv_lst, eqvs_map eqv_trs]
/-- the last row that has the place -/
def lastV (rows : List Rs) (p : Int) : OI := rows.foldl (fun t r => if inS r.1.1 r.1.2 p = true then r.2 else t) none
theorem lastV_snoc (rows : List Rs) (r : Rs) (p : Int) : lastV (rows ++ [r]) p = if inS r.1.1 r.1.2 p = true then r.2 else lastV rows p := by
  unfold lastV
  rw [List.foldl_append]
  rfl
/-! ### no place in common -/
def Dj (a b : Rw) : Prop := ∀ p, inS a.1 a.2.1 p = true → inS b.1 b.2.1 p = false
theorem Dj.symm {a b : Rw} (h : Dj a b) : Dj b a := fun p i => by
  cases e : inS a.1 a.2.1 p with
  | false => rfl
  | true => rw [h p e] at i; cases i
theorem val_mem {rows : List Rw} (h : rows.Pairwise Dj) {r : Rw} (m : r ∈ rows) {p : Int} (i : inS r.1 r.2.1 p = true) : val rows p = r.2.2 := by
  obtain ⟨a, b, rfl⟩ := List.append_of_mem m
  have hb : ∀ x ∈ b, inS x.1 x.2.1 p = false := fun x hx => (List.pairwise_cons.mp (List.pairwise_append.mp h).2.1).1 x hx p i
  rw [val_append, if_pos (by simp [i]), show r :: b = [r] ++ b from rfl, val_append_none [r] hb]
  simp [val, i]
theorem val_perm {a b : List Rw} (h : a.Perm b) (d : a.Pairwise Dj) (p : Int) : val a p = val b p := by
  have d' : b.Pairwise Dj := h.pairwise d fun h => h.symm
  by_cases c : ∃ r ∈ a, inS r.1 r.2.1 p = true
  · obtain ⟨r, m, i⟩ := c
    rw [val_mem d m i, val_mem d' (h.mem_iff.mp m) i]
  · have n : ∀ r ∈ a, inS r.1 r.2.1 p = false := fun r m => by
      cases e : inS r.1 r.2.1 p with
      | false => rfl
      | true => exact absurd ⟨r, m, e⟩ c
    rw [val_none_of n, val_none_of fun r m => n r (h.mem_iff.mpr m)]
theorem dj_of_le {a b : Rw} (h : leO a.2.1 b.1) : Dj a b := fun p i => by
  obtain ⟨a1, a2, a3⟩ := a
  obtain ⟨b1, b2, b3⟩ := b
  obtain ⟨x, y, rfl, rfl, hxy⟩ := leO_some h
  cases a1 <;> cases b2 <;> simp at i ⊢ <;> omega
theorem ord_dj {rows : List Rw} (h : OrdR rows) : rows.Pairwise Dj := h.1.imp fun h => dj_of_le h
/-! ### by their low ends -/
def leRw (a b : Rw) : Bool := decide (rx a.1 < rx b.1 ∨ (rx a.1 = rx b.1 ∧ ry a.1 ≤ ry b.1))
theorem leRw_trans (a b c : Rw) (h : leRw a b = true) (h' : leRw b c = true) : leRw a c = true := by
  simp only [leRw, decide_eq_true_eq] at *
  omega
theorem leRw_total (a b : Rw) : (leRw a b || leRw b a) = true := by
  simp only [leRw, Bool.or_eq_true, decide_eq_true_eq]
  omega
theorem rkO_trw (r : Rw) : rkO (trw r) = r.1 := by
  obtain ⟨a, b, c⟩ := r
  cases a <;> rfl
theorem rkV_trw (r : Rw) : (rkV (trw r)).isSome = true := by
  obtain ⟨a, b, c⟩ := r
  cases a <;> rfl
theorem sortR_map (rows : List Rw) : sortR (rows.map trw) = (rows.mergeSort leRw).map trw := by
  unfold sortR
  exact (PySem.W.sort_maps (r := leRw) (s := leR) trw (l := rows) (fun a _ b _ => by simp only [leRw, leR, rkO_trw])).symm
@[simp] theorem gSortR_rows {rows : List Rw} (h : rows.length ≤ 1000000) : gSortR [.lst (rows.map trw)] = some (.own ((rows.mergeSort leRw).map trw)) := by
  have h1 : (rows.map trw).all (fun v => (rkV v).isSome) = true := by
    rw [List.all_map]
    exact List.all_eq_true.mpr fun r _ => rkV_trw r
  have h2 : (rows.map trw).length ≤ sizeLine := by
    rw [List.length_map]
    exact szl (by omega)
  simp only [gSortR, h1, h2, and_self, if_true, sortR_map]
theorem le_of_sorted {a b : Rw} (h : leRw a b = true) (d : Dj a b) (sa : spO a.1 a.2.1) (sb : spO b.1 b.2.1) : leO a.2.1 b.1 := by
  obtain ⟨a1, a2, a3⟩ := a
  obtain ⟨b1, b2, b3⟩ := b
  simp only [leRw, decide_eq_true_eq] at h
  have dj : ∀ p, ¬ (inS a1 a2 p = true ∧ inS b1 b2 p = true) := fun p ⟨i, j⟩ => by
    have := d p i
    rw [show inS b1 b2 p = true from j] at this
    cases this
  cases b1 with
  | none =>
    cases a1 with
    | none =>
      exfalso
      obtain ⟨p, hp, _, _⟩ := sp_place sa 0
      cases a2 with
      | none =>
        obtain ⟨q, hq, _, _⟩ := sp_place sb 0
        exact dj q ⟨rfl, hq⟩
      | some x =>
        cases b2 with
        | none => exact dj p ⟨hp, rfl⟩
        | some y => exact dj (min x y - 1) ⟨by simp; omega, by simp; omega⟩
    | some k => simp [rx] at h
  | some l =>
    have hl : inS (some l) b2 l = true := by cases b2 <;> simp [spO] at sb ⊢ <;> omega
    cases a2 with
    | none =>
      exfalso
      cases a1 with
      | none => exact dj l ⟨rfl, hl⟩
      | some k =>
        simp [rx, ry] at h
        exact dj l ⟨by simp; omega, hl⟩
    | some x =>
      show x ≤ l
      refine Int.not_lt.mp fun hlx => ?_
      cases a1 with
      | none => exact dj l ⟨by simp; omega, hl⟩
      | some k =>
        simp [rx, ry] at h
        exact dj l ⟨by simp; omega, hl⟩
theorem sort_ord {rows : List Rw} (d : rows.Pairwise Dj) (s : ∀ r ∈ rows, spO r.1 r.2.1) : OrdR (rows.mergeSort leRw) := by
  have pm := List.mergeSort_perm rows leRw
  have d' : (rows.mergeSort leRw).Pairwise Dj := pm.symm.pairwise d fun h => h.symm
  have s' : ∀ r ∈ rows.mergeSort leRw, spO r.1 r.2.1 := fun r m => s r (pm.mem_iff.mp m)
  refine ⟨?_, s'⟩
  have so := List.pairwise_mergeSort leRw_trans leRw_total rows
  have both := so.and d'
  exact both.imp_of_mem fun ma mb ⟨h1, h2⟩ => le_of_sorted h1 h2 (s' _ ma) (s' _ mb)
/-! ### less -/
def lessM (s o : Sn) : List Sn := (match o.1 with | none => [] | some c => (meetM s.1 s.2 none (some c)).toList) ++ (match o.2 with | none => [] | some d => (meetM s.1 s.2 (some d) none).toList)
theorem toList_mem {o : Option Sn} {t : Sn} : t ∈ o.toList ↔ o = some t := by cases o <;> simp [eq_comm]
theorem lessM_len (s o : Sn) : (lessM s o).length ≤ 2 := by
  have h : ∀ o : Option Sn, o.toList.length ≤ 1 := fun o => by cases o <;> simp
  unfold lessM
  rw [List.length_append]
  have h1 : (match o.1 with | none => [] | some c => (meetM s.1 s.2 none (some c)).toList : List Sn).length ≤ 1 := by split <;> first | exact h _ | simp
  have h2 : (match o.2 with | none => [] | some d => (meetM s.1 s.2 (some d) none).toList : List Sn).length ≤ 1 := by split <;> first | exact h _ | simp
  omega
theorem lessM_mem {s o t : Sn} (h : t ∈ lessM s o) : spO t.1 t.2 ∧ ∀ p, inS t.1 t.2 p = true → inS s.1 s.2 p = true ∧ inS o.1 o.2 p = false := by
  unfold lessM at h
  obtain ⟨o1, o2⟩ := o
  rcases List.mem_append.mp h with h | h
  · cases o1 with
    | none => simp at h
    | some c =>
      obtain ⟨h1, h2, _⟩ := meet_some (toList_mem.mp h)
      refine ⟨h1, fun p i => ?_⟩
      rw [h2 p, Bool.and_eq_true] at i
      refine ⟨i.1, ?_⟩
      have := i.2
      simp at this
      cases o2 <;> simp <;> omega
  · cases o2 with
    | none => simp at h
    | some d =>
      obtain ⟨h1, h2, _⟩ := meet_some (toList_mem.mp h)
      refine ⟨h1, fun p i => ?_⟩
      rw [h2 p, Bool.and_eq_true] at i
      refine ⟨i.1, ?_⟩
      have := i.2
      simp at this
      cases o1 <;> simp <;> omega
theorem lessM_has {s o : Sn} {p : Int} (h : inS s.1 s.2 p = true) (h' : inS o.1 o.2 p = false) : ∃ t ∈ lessM s o, inS t.1 t.2 p = true := by
  obtain ⟨o1, o2⟩ := o
  have key : ∀ a b : OI, inS a b p = true → ∃ t, meetM s.1 s.2 a b = some t ∧ inS t.1 t.2 p = true := fun a b i => by
    cases e : meetM s.1 s.2 a b with
    | none =>
      have := meet_none e p
      rw [h, i] at this
      cases this
    | some t => exact ⟨t, rfl, by rw [(meet_some e).2.1 p, h, i]; rfl⟩
  unfold lessM
  cases o1 with
  | none =>
    cases o2 with
    | none => simp at h'
    | some d =>
      obtain ⟨t, e, i⟩ := key (some d) none (by simp at h' ⊢; omega)
      exact ⟨t, by simp [e], i⟩
  | some c =>
    by_cases hc : p < c
    · obtain ⟨t, e, i⟩ := key none (some c) (by simp; omega)
      exact ⟨t, by simp [e], i⟩
    · cases o2 with
      | none => simp at h'; omega
      | some d =>
        obtain ⟨t, e, i⟩ := key (some d) none (by simp at h' ⊢; omega)
        exact ⟨t, by simp [e], i⟩
theorem lessM_dj {s o : Sn} (ho : spO o.1 o.2) : (lessM s o).Pairwise fun a b => ∀ p, inS a.1 a.2 p = true → inS b.1 b.2 p = false := by
  obtain ⟨o1, o2⟩ := o
  unfold lessM
  cases o1 with
  | none => cases o2 with
    | none => exact .nil
    | some d => cases meetM s.1 s.2 (some d) none <;> simp
  | some c => cases o2 with
    | none => cases meetM s.1 s.2 none (some c) <;> simp
    | some d =>
      have hcd : c < d := ho
      cases e1 : meetM s.1 s.2 none (some c) <;> cases e2 : meetM s.1 s.2 (some d) none <;> simp [e1, e2]
      intro p i
      rw [(meet_some e1).2.1 p, Bool.and_eq_true] at i
      cases q : inS _ _ p
      · rfl
      · rw [(meet_some e2).2.1 p, Bool.and_eq_true] at q
        have h1 := i.2
        have h2 := q.2
        simp at h1 h2
        omega
theorem inS_mid {a b : OI} {p q x : Int} (h : inS a b p = true) (h' : inS a b q = true) (h1 : p ≤ x) (h2 : x ≤ q) : inS a b x = true := by
  cases a <;> cases b <;> simp at h h' ⊢ <;> omega
/-- both sides stay: the place ahead of the low end is had -/
theorem lessM_two {s o : Sn} (ho : spO o.1 o.2) (h : 1 < (lessM s o).length) : ∃ c, o.1 = some c ∧ inS s.1 s.2 (c - 1) = true := by
  obtain ⟨o1, o2⟩ := o
  unfold lessM at h
  cases o1 with
  | none => cases o2 with
    | none => simp at h
    | some d => cases e : meetM s.1 s.2 (some d) none <;> simp [e] at h
  | some c =>
    refine ⟨c, rfl, ?_⟩
    cases e1 : meetM s.1 s.2 none (some c) with
    | none => cases o2 with
      | none => simp [e1] at h
      | some d => cases e : meetM s.1 s.2 (some d) none <;> simp [e1, e] at h
    | some t =>
      cases o2 with
      | none => simp [e1] at h
      | some d =>
        cases e2 : meetM s.1 s.2 (some d) none with
        | none => simp [e1, e2] at h
        | some u =>
          have hcd : c < d := ho
          obtain ⟨p, hp, _, _⟩ := sp_place (meet_some e1).1 0
          obtain ⟨q, hq, _, _⟩ := sp_place (meet_some e2).1 0
          rw [(meet_some e1).2.1 p, Bool.and_eq_true] at hp
          rw [(meet_some e2).2.1 q, Bool.and_eq_true] at hq
          have k1 := hp.2
          have k2 := hq.2
          simp at k1 k2
          exact inS_mid hp.1 hq.1 (by omega) (by omega)
/-! ### rows laid over one another -/
def restM (found : List Rw) (r : Rs) : List Rw := found.flatMap fun f => (lessM (f.1, f.2.1) r.1).map fun t => (t.1, t.2, f.2.2)
def formS (found : List Rw) (r : Rs) : List Rw := ((r.1.1, r.1.2, r.2) :: restM found r).mergeSort leRw
def formM (rows : List Rs) : List Rw := rows.foldl formS []
theorem rest_mem {found : List Rw} {r : Rs} {t : Rw} (h : t ∈ restM found r) : ∃ f ∈ found, spO t.1 t.2.1 ∧ t.2.2 = f.2.2 ∧ ∀ p, inS t.1 t.2.1 p = true → inS f.1 f.2.1 p = true ∧ inS r.1.1 r.1.2 p = false := by
  unfold restM at h
  obtain ⟨f, hf, h⟩ := List.mem_flatMap.mp h
  obtain ⟨u, hu, rfl⟩ := List.mem_map.mp h
  obtain ⟨h1, h2⟩ := lessM_mem hu
  exact ⟨f, hf, h1, rfl, h2⟩
theorem rest_dj {found : List Rw} (o : OrdR found) {r : Rs} (hr : spO r.1.1 r.1.2) : (restM found r).Pairwise Dj := by
  unfold restM
  rw [List.pairwise_flatMap]
  refine ⟨fun f _ => ?_, (ord_dj o).imp fun {a b} h x hx y hy p i => ?_⟩
  · rw [List.pairwise_map]
    exact (lessM_dj (s := (f.1, f.2.1)) hr).imp fun h p i => h p i
  · obtain ⟨u, hu, rfl⟩ := List.mem_map.mp hx
    obtain ⟨v, hv, rfl⟩ := List.mem_map.mp hy
    have h1 := (lessM_mem hu).2 p i
    cases e : inS v.1 v.2 p with
    | false => rfl
    | true =>
      have h2 := (lessM_mem hv).2 p e
      rw [h p h1.1] at h2
      cases h2.1
theorem rest_len {found : List Rw} (o : OrdR found) {r : Rs} (hr : spO r.1.1 r.1.2) : (restM found r).length ≤ found.length + 1 := by
  have one : ∀ (l : List Rw) (p : Int), l.Pairwise Dj → l.countP (fun f => inS f.1 f.2.1 p) ≤ 1 := by
    intro l p
    induction l with
    | nil => intro _; simp
    | cons f l ih =>
      intro h
      obtain ⟨h1, h2⟩ := List.pairwise_cons.mp h
      rw [List.countP_cons]
      by_cases c : inS f.1 f.2.1 p = true
      · have z : l.countP (fun f => inS f.1 f.2.1 p) = 0 := List.countP_eq_zero.mpr fun g hg => by simp [h1 g hg p c]
        rw [z]
        simp [c]
      · have := ih h2
        simp [c]
        exact this
  have key : ∀ l : List Rw, (∀ c, r.1.1 ≠ some c) → (restM l r).length ≤ l.length := by
    intro l hc
    induction l with
    | nil => simp [restM]
    | cons f l ih =>
      have h1 : (lessM (f.1, f.2.1) r.1).length ≤ 1 := Nat.not_lt.mp fun h => by
        obtain ⟨c, e, _⟩ := lessM_two hr h
        exact hc c e
      unfold restM at ih ⊢
      rw [List.flatMap_cons, List.length_append, List.length_map, List.length_cons]
      omega
  have key2 : ∀ (c : Int), r.1.1 = some c → ∀ l : List Rw, (restM l r).length ≤ l.length + l.countP (fun f => inS f.1 f.2.1 (c - 1)) := by
    intro c hc l
    induction l with
    | nil => simp [restM]
    | cons f l ih =>
      have h1 : (lessM (f.1, f.2.1) r.1).length ≤ 1 + (if inS f.1 f.2.1 (c - 1) = true then 1 else 0) := by
        by_cases h : 1 < (lessM (f.1, f.2.1) r.1).length
        · obtain ⟨c', e, i⟩ := lessM_two hr h
          rw [hc] at e
          cases e
          rw [if_pos i]
          exact lessM_len _ _
        · omega
      unfold restM at ih ⊢
      rw [List.flatMap_cons, List.length_append, List.length_map, List.length_cons, List.countP_cons]
      omega
  cases hc : r.1.1 with
  | none =>
    have := key found (fun c e => by rw [hc] at e; cases e)
    omega
  | some c =>
    have h1 := key2 c hc found
    have h2 := one found (c - 1) (ord_dj o)
    omega
theorem form_step {found : List Rw} (o : OrdR found) {r : Rs} (hr : spO r.1.1 r.1.2) : OrdR (formS found r) ∧ (formS found r).length ≤ found.length + 2 ∧ ∀ p, val (formS found r) p = if inS r.1.1 r.1.2 p = true then r.2 else val found p := by
  have dj : ((r.1.1, r.1.2, r.2) :: restM found r).Pairwise Dj := by
    refine List.pairwise_cons.mpr ⟨fun t ht p i => ?_, rest_dj o hr⟩
    obtain ⟨f, _, _, _, h⟩ := rest_mem ht
    cases e : inS t.1 t.2.1 p with
    | false => rfl
    | true =>
      have := (h p e).2
      rw [show inS r.1.1 r.1.2 p = true from i] at this
      cases this
  have sp : ∀ t ∈ (r.1.1, r.1.2, r.2) :: restM found r, spO t.1 t.2.1 := fun t ht => by
    rcases List.mem_cons.mp ht with rfl | ht
    · exact hr
    · obtain ⟨f, _, h, _⟩ := rest_mem ht
      exact h
  refine ⟨sort_ord dj sp, ?_, fun p => ?_⟩
  · unfold formS
    rw [List.length_mergeSort, List.length_cons]
    have := rest_len o hr
    omega
  · unfold formS
    rw [← val_perm (List.mergeSort_perm _ _).symm dj p]
    by_cases c : inS r.1.1 r.1.2 p = true
    · rw [if_pos c]
      exact val_mem dj List.mem_cons_self c
    · rw [if_neg c]
      have c' : inS r.1.1 r.1.2 p = false := by simpa using c
      by_cases q : ∃ f ∈ found, inS f.1 f.2.1 p = true
      · obtain ⟨f, hf, i⟩ := q
        obtain ⟨t, ht, it⟩ := lessM_has (s := (f.1, f.2.1)) (o := r.1) i c'
        have m : ((t.1, t.2, f.2.2) : Rw) ∈ restM found r := List.mem_flatMap.mpr ⟨f, hf, List.mem_map.mpr ⟨t, ht, rfl⟩⟩
        rw [val_mem dj (List.mem_cons_of_mem _ m) it, val_mem (ord_dj o) hf i]
      · have n : ∀ f ∈ found, inS f.1 f.2.1 p = false := fun f hf => by
          cases e : inS f.1 f.2.1 p with
          | false => rfl
          | true => exact absurd ⟨f, hf, e⟩ q
        rw [val_none_of n, val_none_of fun t ht => ?_]
        rcases List.mem_cons.mp ht with rfl | ht
        · exact c'
        · obtain ⟨f, hf, _, _, h⟩ := rest_mem ht
          cases e : inS t.1 t.2.1 p with
          | false => rfl
          | true =>
            have := (h p e).1
            rw [n f hf] at this
            cases this
theorem formM_snoc (rows : List Rs) (r : Rs) : formM (rows ++ [r]) = formS (formM rows) r := by
  unfold formM
  rw [List.foldl_append]
  rfl
theorem form_ok (rows : List Rs) (h : ∀ r ∈ rows, spO r.1.1 r.1.2) : OrdR (formM rows) ∧ (formM rows).length ≤ 2 * rows.length ∧ ∀ p, val (formM rows) p = lastV rows p := by
  rcases List.eq_nil_or_concat rows with rfl | ⟨l, r, rfl⟩
  · exact ⟨ord_nil, Nat.le_refl _, fun _ => rfl⟩
  · rw [List.concat_eq_append] at *
    obtain ⟨o, h1, h2⟩ := form_ok l fun x hx => h x (List.mem_append_left _ hx)
    obtain ⟨o', k1, k2⟩ := form_step o (h r (by simp))
    rw [formM_snoc]
    refine ⟨o', by simp; omega, fun p => ?_⟩
    rw [k2 p, lastV_snoc, h2 p]
termination_by rows.length
decreasing_by simp_all
end Eg

namespace Eg
open PySem L2
/-! ### objects -/
section
variable {K : PySem.W.Frag} {Z : Stc} {S S' S1 : Gh} {H H' H1 : Hp} {W : WX}
theorem FsR.nil : FsR K Z S [] [] := ⟨rfl, by simp only [List.map_nil, RepL]⟩
theorem FsR.uncons {g : Str} {u : Val} {gs : List (Str × Val)} {fs : List (Str × V)} (h : FsR K Z S fs ((g, u) :: gs)) : ∃ x r, fs = (g, x) :: r ∧ Rep K Z S u x ∧ FsR K Z S r gs := by
  obtain ⟨h1, h2⟩ := h
  cases fs with
  | nil => cases h1
  | cons p r =>
    obtain ⟨g', x⟩ := p
    simp only [List.map_cons, List.cons.injEq] at h1
    simp only [List.map_cons, RepL] at h2
    obtain ⟨x', r', e, q1, q2⟩ := h2
    cases e
    obtain ⟨rfl, h1⟩ := h1
    exact ⟨x, r, rfl, q1, h1, q2⟩
theorem FsR.cons {g : Str} {u : Val} {gs : List (Str × Val)} {x : V} {r : List (Str × V)} (h : Rep K Z S u x) (t : FsR K Z S r gs) : FsR K Z S ((g, x) :: r) ((g, u) :: gs) := by
  refine ⟨by simp only [List.map_cons, t.1], ?_⟩
  simp only [List.map_cons, RepL]
  exact ⟨_, _, rfl, h, t.2⟩
theorem FsR.unnil {fs : List (Str × V)} (h : FsR K Z S fs []) : fs = [] := by
  cases fs with
  | nil => rfl
  | cons p r => exact absurd h.1 (by simp)
theorem FsR.look {f : Str} {v : Val} : ∀ {gs : List (Str × Val)} {fs : List (Str × V)}, FsR K Z S fs gs → gs.lookup f = some v → ∃ x, fs.lookup f = some x ∧ Rep K Z S v x
  | [], _, _, e => by cases e
  | (g, u) :: gs, fs, h, e => by
    obtain ⟨x, r, rfl, q1, q2⟩ := h.uncons
    rw [List.lookup_cons] at e ⊢
    cases c : f == g with
    | true =>
      rw [c] at e
      cases e
      exact ⟨x, rfl, q1⟩
    | false =>
      rw [c] at e
      exact q2.look e
theorem FsR.lookN {f : Str} : ∀ {gs : List (Str × Val)} {fs : List (Str × V)}, FsR K Z S fs gs → gs.lookup f = none → fs.lookup f = none
  | [], _, h, e => by rw [h.unnil]; rfl
  | (g, u) :: gs, fs, h, e => by
    obtain ⟨x, r, rfl, q1, q2⟩ := h.uncons
    rw [List.lookup_cons] at e ⊢
    cases c : f == g with
    | true =>
      rw [c] at e
      cases e
    | false =>
      rw [c] at e
      exact q2.lookN e
theorem FsR.length {gs : List (Str × Val)} {fs : List (Str × V)} (h : FsR K Z S fs gs) : fs.length = gs.length := by
  have := congrArg List.length h.1
  simpa using this
@[simp] def putG (f : Str) (v : Val) : List (Str × Val) → List (Str × Val)
  | [] => [(f, v)]
  | (g, x) :: r => if g = f then (g, v) :: r else (g, x) :: putG f v r
theorem FsR.put {f : Str} {v : Val} {x : V} (hx : Rep K Z S v x) : ∀ {gs : List (Str × Val)} {fs : List (Str × V)}, FsR K Z S fs gs → FsR K Z S (putF f x fs) (putG f v gs)
  | [], _, h => by rw [h.unnil]; exact .cons hx .nil
  | (g, u) :: gs, fs, h => by
    obtain ⟨y, r, rfl, q1, q2⟩ := h.uncons
    unfold putF putG
    by_cases c : g = f
    · rw [if_pos c, if_pos c]
      exact .cons hx q2
    · rw [if_neg c, if_neg c]
      exact .cons q1 (q2.put hx)
/-- what is asked of the classes whose attribute f is looked at -/
inductive FldT (K : PySem.W.Frag) (Z : Stc) (f : Str) : List Nat → Prop where
  | nil : FldT K Z f []
  | cons {c : Nat} {cs : List Nat} (cl : Cls K (Z.cls c)) (na : NoAttr K (Z.cls c) f) (t : FldT K Z f cs) (lt : c < cL := by decide) : FldT K Z f (c :: cs)
theorem FldT.at {f : Str} {c : Nat} : ∀ {cs : List Nat}, FldT K Z f cs → cs.contains c = true → Cls K (Z.cls c) ∧ NoAttr K (Z.cls c) f ∧ c < cL
  | _, .nil, h => by cases h
  | _, .cons (c := d) cl na t lt, h => by
    by_cases e : c = d
    · subst e
      exact ⟨cl, na, lt⟩
    · exact t.at (by simpa [List.contains_cons, e] using h)
theorem ObR.isins {i : Nat} {o : Ob} (r : ObR K Z S H i o) (hc : o.c < cL) : ∃ a dx fs, S.rho[i]? = some a ∧ i ∉ S.dd ∧ H a = some (.ins (Z.cls o.c) dx fs) ∧ FsR K Z S fs o.fs := by
  rcases r with ⟨a, dx, fs, hc', ha, hd', hh, hf⟩ | ⟨vs, e, a, xs, ha, hd', hh, hf⟩ | ⟨ks, vs, e, a, kxs, ha, hd', hh, hk, hf⟩ | ⟨e, a, ha, hd'⟩
  · exact ⟨a, dx, fs, ha, hd', hh, hf⟩
  · rw [e] at hc; exact absurd hc (show ¬ cL < cL by decide)
  · rw [e] at hc; exact absurd hc (show ¬ cD < cL by decide)
  · rw [e] at hc; exact absurd hc (show ¬ cX < cL by decide)
theorem str_ob {st : Store} (s : StR K Z S H st) {i : Nat} {x : V} (h : Rep K Z S (.obj i) x) {o : Ob} (e : st[i]? = some o) (hc : o.c < cL) : ∃ a dx fs, x = .ref a ∧ (S.rho[i]? = some a ∧ i ∉ S.dd) ∧ H a = some (.ins (Z.cls o.c) dx fs) ∧ FsR K Z S fs o.fs := by
  simp only [Rep] at h
  obtain ⟨a, h1, rfl⟩ := h
  obtain ⟨a', dx, fs, k1, k2, k3, k4⟩ := (s.ob i o e).isins hc
  rw [h1] at k1
  cases k1
  exact ⟨a, dx, fs, rfl, ⟨h1, k2⟩, k3, k4⟩
/-! #### an attribute read -/
def gFld (cs : List Nat) (f : Str) : Val → Store → Option Val
  | .obj i, st => match st[i]? with
    | some o => if cs.contains o.c = true then o.fs.lookup f else none
    | none => none
  | _, _ => none
def dFld (cs : List Nat) (f : Str) (d : DP) : DE := fun env st => (d env st).bind fun v st => match gFld cs f v st with
  | some x => .ok (.val x) st
  | none => .bad
theorem me_fld {X : Cx} {e : Expr} {d : DP} {f : Str} {pos : Pos} {cs : List Nat} (T : FldT X.K Z f cs) (h : MP Z X W e d) (hb : attributeBase e f X.env (eval e X.env) = eval e X.env := by rfl) : ME Z X W (.Attribute e f pos) (dFld cs f d) := by
  obtain ⟨t, h1, h2⟩ := h
  refine ⟨_, pe_fld h1 hb, ?_⟩
  refine snd_bind (RPa := rpP X.K Z) (RPb := rpE X.K Z) (tb := fun x σ H1 Q => ∃ a C dx fs v, x = .ref a ∧ H1 a = some (.ins C dx fs) ∧ Cls X.K C ∧ NoAttr X.K C f ∧ fs.lookup f = some v ∧ Q v H1)
    (db := fun v _ st => match gFld cs f v st with | some x => .ok (.val x) st | none => .bad) h2 ?_
  intro S σ H env st Q v x S1 H1 st1 r e1 r1 p1 po
  cases v with
  | obj i =>
    cases eo : st1[i]? with
    | none => simp only [gFld, eo, Post] at po
    | some o =>
      by_cases hc : cs.contains o.c = true
      · cases el : o.fs.lookup f with
        | none => simp only [gFld, eo, if_pos hc, el, Post] at po
        | some w =>
          simp only [gFld, eo, if_pos hc, el, Post] at po
          obtain ⟨a, dx, fs, rfl, ha, hh, hf⟩ := str_ob r1.str p1.p eo (T.at hc).2.2
          obtain ⟨y, hy, ry⟩ := hf.look el
          exact ⟨a, _, dx, fs, y, rfl, hh, (T.at hc).1, (T.at hc).2.1, hy, po y S1 H1 (Ext.refl _ _) r1.wf r1.str ry⟩
      · simp only [gFld, eo, if_neg hc, Post] at po
  | _ => simp only [gFld, Post] at po
/-! #### an attribute written -/
def gPut (cs : List Nat) (f : Str) (x : Val) : Val → Store → Option Store
  | .obj i, st => match st[i]? with
    | some o => if cs.contains o.c = true ∧ o.fs.length < 1000 then some (st.set i ⟨o.c, putG f x o.fs⟩) else none
    | none => none
  | _, _ => none
def dSetF (cs : List Nat) (f : Str) (dv : DP) (d : DP) : DS := fun env st => dExpS ((dv env st).bind fun x st => (d env st).bind fun v st => .ok (x, v) st) env fun p st => match gPut cs f p.1 p.2 st with
  | some st' => .nx env st'
  | none => .bad
theorem obr_other {st : Store} {i j : Nat} {a : Addr} {p : Ob} {u : HO} (s : StR K Z S H st) (hj : st[j]? = some p) (z : j ≠ i) (ea : S.rho[i]? = some a) (ed : i ∉ S.dd) {o : HO} (eh : H a = some o) (n : ¬ Sy o) : ObR K Z S (upd H a u) j p :=
  (s.ob j p hj).to (fun _ q => q) Iff.rfl (fun b v q qd h => by
    have nb : b ≠ a := fun y => by
      subst y
      exact z (s.nd _ _ _ q ea qd ed)
    rw [upd_ne nb]; exact h) (sy_upd eh n) fun _ _ q => q
/-- a thing of the store changed -/
theorem mt_upd {st : Store} (w : Wf S H) (s : StR K Z S H st) {i : Nat} {o p : Ob} {a : Addr} {u v : HO} (ei : st[i]? = some o) (ea : S.rho[i]? = some a) (ed : i ∉ S.dd) (eh : H a = some u) (nu : ¬ Sy u) (mv : Mb v) (hp : ObR K Z S (upd H a v) i p) :
    Ext S H S (upd H a v) ∧ Wf S (upd H a v) ∧ StR K Z S (upd H a v) (st.set i p) := by
  have am : S.mt a := ⟨i, ea, ed⟩
  have hi : i < st.length := (List.getElem?_eq_some_iff.mp ei).1
  refine ⟨⟨⟨[], by simp⟩, Same.refl _, fun _ h => .inl h, fun b u hb nb => ?_, fun b hb => ?_, fun _ h => .inl h⟩, ⟨fun b u hb => ?_, w.frz, fun b hb => ?_, w.ng⟩, ⟨tabs_sy s.tab (sy_upd eh nu), by rw [List.length_set]; exact s.len, s.nd, s.dl, fun j p hj => ?_⟩⟩
  · rw [upd_ne (fun z => nb.rho (by rw [z]; exact am))]
    exact hb
  · by_cases z : b = a
    · subst z
      rw [upd_same]; simp
    · rw [upd_ne z]; exact hb
  · have z : b ≠ a := fun z => by rw [z, w.ng a am] at hb; cases hb
    rw [upd_ne z]; exact w.same _ _ hb
  · by_cases z : b = a
    · subst z
      exact ⟨_, upd_same, mv⟩
    · obtain ⟨q, e, k⟩ := w.ins b hb
      exact ⟨q, by rw [upd_ne z]; exact e, k⟩
  · by_cases z : j = i
    · subst z
      rw [List.getElem?_set_self hi] at hj
      cases hj
      exact hp
    · rw [List.getElem?_set_ne (Ne.symm z)] at hj
      exact obr_other s hj z ea ed eh nu
theorem put_ext {st : Store} (w : Wf S H) (s : StR K Z S H st) {i : Nat} {o : Ob} {a dx : Addr} {fs : List (Str × V)} {f : Str} {v : Val} {y : V} (hc : o.c < cL) (ei : st[i]? = some o) (ea : S.rho[i]? = some a ∧ i ∉ S.dd) (eh : H a = some (.ins (Z.cls o.c) dx fs)) (hf : FsR K Z S fs o.fs) (hv : Rep K Z S v y) :
    Ext S H S (upd H a (.ins (Z.cls o.c) dx (putF f y fs))) ∧ Wf S (upd H a (.ins (Z.cls o.c) dx (putF f y fs))) ∧ StR K Z S (upd H a (.ins (Z.cls o.c) dx (putF f y fs))) (st.set i ⟨o.c, putG f v o.fs⟩) :=
  mt_upd w s ei ea.1 ea.2 eh id trivial (.ins a dx _ hc ea.1 ea.2 upd_same (hf.put hv))
theorem ms_setF {X : Cx} {o value : Expr} {dv d : DP} {f : Str} {tpos pos : Pos} {cs : List Nat} (T : FldT X.K Z f cs) (hv : MV Z X W value dv) (h : MP Z X W o d)
    (hp : ∀ {tv ta : TE}, PE X value tv → PE X o ta → PS X (.Assign [.Attribute o f tpos] value pos) (sFld X.K ta tv f)) : MS Z X W (.Assign [.Attribute o f tpos] value pos) (dSetF cs f dv d) := by
  obtain ⟨tv, h1, h2⟩ := hv
  obtain ⟨ta, h3, h4⟩ := h
  refine ⟨_, hp h1 h3, ?_⟩
  have hs : Snd X.K Z W (fun _ S H (p : Val × Val) (q : V × V) => Rep X.K Z S p.1 q.1 ∧ PRepS X.K Z S H p.2 q.2) (fun σ H Q => tv σ H fun y H1 => ta σ H1 fun x H2 => Q (y, x) H2) (fun env st => (dv env st).bind fun x st => (d env st).bind fun v st => .ok (x, v) st) := by
    refine snd_bind (RPa := rpV X.K Z) (tb := fun y σ H1 Q => ta σ H1 fun x H2 => Q (y, x) H2) (db := fun x env st => (d env st).bind fun v st => .ok (x, v) st) h2 ?_
    intro S σ H env st Q v y S1 H1 st1 r e1 r1 p1 po
    refine h4 S1 σ H1 env st1 _ r1 ?_
    cases ed : d env st1 with
    | bad => simp only [ed, Out.bind, Post] at po
    | exc c fs st2 =>
      simp only [ed, Out.bind, Post] at po ⊢
      exact po
    | ok u st2 =>
      simp only [ed, Out.bind, Post] at po ⊢
      exact fun x S' H' e w s q => po (y, x) S' H' e w s ⟨Rep.mono e.mon _ _ p1, q⟩
  intro S σ H env st D r p
  refine hs S σ H env st (fun q H2 => ∃ a C dx fs, q.2 = .ref a ∧ H2 a = some (.ins C dx fs) ∧ Cls X.K C ∧ NoAttr X.K C f ∧ fs.length < 1000 ∧ D.nx σ (upd H2 a (.ins C dx (putF f q.1 fs)))) r ?_
  refine PostS.of_any (f := fun (p : Val × Val) st => match gPut cs f p.1 p.2 st with | some st' => .nx env st' | none => .bad) r p fun v st1 x S1 H1 e1 r1 q po => ?_
  obtain ⟨v, u⟩ := v
  obtain ⟨y, x⟩ := x
  obtain ⟨q1, q2⟩ := q
  simp only at q1 q2 po ⊢
  cases u with
  | obj i =>
    cases eo : st1[i]? with
    | none => simp only [gPut, eo, PostS] at po
    | some o =>
      by_cases hc : cs.contains o.c = true ∧ o.fs.length < 1000
      · simp only [gPut, eo, if_pos hc, PostS] at po
        obtain ⟨a, dx, fs, rfl, ha, hh, hf⟩ := str_ob r1.str q2.p eo (T.at hc.1).2.2
        obtain ⟨x1, x2, x3⟩ := put_ext (f := f) r1.wf r1.str (T.at hc.1).2.2 eo ha hh hf q1
        exact ⟨a, _, dx, fs, rfl, hh, (T.at hc.1).1, (T.at hc.1).2.1, by rw [hf.length]; exact hc.2, po S1 σ _ ((e1.trans x1).toS env σ) (r1.ext x1 x2 x3)⟩
      · simp only [gPut, eo, if_neg hc, PostS] at po
  | _ => simp only [gPut, PostS] at po
/-! #### calls -/
@[simp] def Out.cm {α : Type} : Bool → Out α → Out α
  | true, o => o.calm
  | false, o => o
/-- what a call lets out -/
def EC (cm : Bool) (W : WX) : St → XK := fun σ c d H => if cm = true then False else W c d σ H
theorem passC {X : Cx} {cm : Bool} (tk : cm = false → Takes X W) (σ : St) : PassesAt (L2.CX X.prog X.w) X σ (EC cm W σ) := by
  cases cm with
  | true =>
    have e : EC true W σ = E0 := by
      funext c d H
      simp only [EC, if_true]
      all_goals rfl
    rw [e]
    exact fun pins H s e s' I c => passX pins σ H s e s' I c
  | false =>
    have e : EC false W σ = WE W σ := by
      funext c d H
      simp only [EC, if_neg (show ¬ false = true from Bool.false_ne_true)]
    rw [e]
    exact passAt (tk rfl) σ
theorem post_cm {α β : Type} {cm : Bool} {S0 : Gh} {H0 : Hp} {RP : Gh → Hp → α → β → Prop} {Q : β → Hp → Prop} {σ : St} {o : Out α} (po : Post K Z S0 H0 RP Q (fun c dd H' => W c dd σ H') (o.cm cm)) : Post K Z S0 H0 RP Q (fun c dd H' => EC cm W σ c dd H') o := by
  cases cm with
  | false => simpa [EC, Out.cm] using po
  | true =>
    cases o with
    | ok a st =>
      simp only [Out.cm, Out.calm, Post] at po ⊢
      exact po
    | exc c fs st => simp only [Out.cm, Out.calm, Post] at po
    | bad => simp only [Out.cm, Out.calm, Post] at po
theorem ArsR.append {as bs : List Arg} {xs ys : List V} (h : ArsR K Z S H as xs) (k : ArsR K Z S H bs ys) : ArsR K Z S H (as ++ bs) (xs ++ ys) := by
  induction as generalizing xs with
  | nil =>
    have e : xs = [] := by simpa only [ArsR] using h
    subst e
    exact k
  | cons a as ih =>
    simp only [ArsR] at h
    obtain ⟨x, r, rfl, h1, h2⟩ := h
    simp only [List.cons_append, ArsR]
    exact ⟨x, _, rfl, h1, ih h2⟩
theorem run_fnD {X : Cx} {CX : CXT} {k : Nat} {f : Addr} {fd : FuncData} {ps : List Str} {sp : Sp} {dvs : List V} {ds : List Value} {E : XK} {pins : List (Addr × Obj)} {σ : St} {H : Hp} {s : Shared} {Q : VK} {us : List Value} {vs : List V}
    (F : FnOk X.prog X.w X.K X.mg X.base CX k f fd ps sp) (hr : Room k X.A) (hb : Binds X.K fd ps ds) (hd : Vals dvs ds) (hx : PassesAt CX X σ E) (I : Inv X pins σ H s) (r : Vals vs us) (h : sp (vs ++ dvs) H Q E) :
    wpAny (model X.prog X.w) X.A (call (.ref f) us) (EP X pins σ Q) X.xe s := by
  have r2 : Vals (vs ++ dvs) (us ++ ds) := r.append hd
  have hl : (us ++ ds).length = ps.length := by rw [← r2.length]; exact F.len _ _ _ _ h
  refine wpAny_call (codeAny_mono (F.run X.A X.stack s H ⟨us, []⟩ (us ++ ds) (vs ++ dvs) Q E hr I.env0 (hb s us I.kIn hl) r2 h) fun r s' hq => ?_)
  cases r with
  | error e => exact hx pins H s e s' I hq
  | ok fl =>
    cases fl with
    | ret u => exact I.after hq
    | next => exact False.elim hq
    | brk => exact False.elim hq
    | cont => exact False.elim hq
end
/-- the def f, with the defaults dv behind -/
structure Fdf (P : Program) (w : World) (K : PySem.W.Frag) (mg : Str → Option Value) (base : Heap) (Z : Stc) (k n : Nat) (f : Addr) (dv : List Arg) (D : FD) : Prop where
  ex : ∃ fd ps ds dvs, ps.length = n ∧ FnOk P w K mg base (L2.CX P w) k f fd ps (spD K Z D n) ∧ Binds K fd ps ds ∧ Vals dvs ds ∧ ∀ S H, ArsR K Z S H dv dvs
/-- what a call of it promises -/
def tD (K : PySem.W.Frag) (Z : Stc) (cm : Bool) (W : WX) (D : FD) (n : Nat) (dvs : List V) (vs : List V) : CT V := fun σ H Q => spD K Z D n (vs ++ dvs) H Q (EC cm W σ)
section
variable {K : PySem.W.Frag} {Z : Stc} {S S' S1 : Gh} {H H' H1 : Hp} {W : WX}
theorem ArsR.mono {as : List Arg} {xs : List V} (w : Wf S H) (e : Ext S H S' H') (h : ArsR K Z S H as xs) : ArsR K Z S' H' as xs := by
  induction as generalizing xs with
  | nil => exact h
  | cons a as ih =>
    simp only [ArsR] at h ⊢
    obtain ⟨x, r, rfl, h1, h2⟩ := h
    exact ⟨x, r, rfl, ArR.ext w e h1, ih h2⟩
theorem tD_of {cm : Bool} {D : FD} {n : Nat} {dv args : List Arg} {dvs vs : List V} {σ : St} {Q : VK} {st : Store} {H0 : Hp} (w : Wf S H) (s : StR K Z S H st) (h : ArsR K Z S H args vs) (hd : ArsR K Z S H dv dvs) (live : ∀ a, H0 a ≠ none → H a ≠ none)
    (po : Post K Z S H (rpE K Z H0) Q (fun c dd H' => W c dd σ H') (if args.length + dv.length = n then (D (args ++ dv) st).cm cm else .bad)) : tD K Z cm W D n dvs vs σ H Q := by
  by_cases hn : args.length + dv.length = n
  · rw [if_pos hn] at po
    have ha := h.append hd
    exact ⟨S, st, args ++ dv, w, s, ha, by rw [← ArsR.length ha, List.length_append]; exact hn, (post_cm po).imp fun a y S' H' e w q => RR.back q live⟩
  · rw [if_neg hn] at po
    exact po.elim
end
section
variable {X : Cx} {CX : CXT} {k : Nat} {f C : Addr} {fd : FuncData} {ps : List Str} {sp : Sp} {dvs : List V} {ds : List Value} {E : St → XK} {x m : Str} {p pos apos : Pos} {e o : Expr} {es : List Expr} {ta : TE} {t : TA} {mc : Value}
theorem pe_any {e : Expr} : PE X e (fun σ H Q => ∃ t', PE X e t' ∧ t' σ H Q) := ⟨fun pins s σ H Q I ⟨_, p, h⟩ => p.run pins s σ H Q I h⟩
def tMk (C : Addr) (sp : Sp) (dvs : List V) (E : St → XK) (t : TA) : TE := fun σ H Q => t σ H fun vs H1 => ∀ x dx, H1 x = none → H1 dx = none → dx ≠ x →
  sp (.ref x :: (vs ++ dvs)) (upd (upd H1 dx (.own x)) x (.ins C dx [])) (fun v H2 => v = .non ∧ Q (.ref x) H2) (E σ)
theorem run_makeS {pins : List (Addr × Obj)} {σ : St} {H : Hp} {s : Shared} {Q : VK} {us : List Value} {vs : List V} {E : XK} (M : Mk X.K C f) (F : FnOk X.prog X.w X.K X.mg X.base CX k f fd ps sp) (hr : Room (k + 1) X.A) (hb : Binds X.K fd ps ds) (hd : Vals dvs ds)
    (hx : PassesAt CX X σ E) (I : Inv X pins σ H s) (r : Vals vs us)
    (h : ∀ x dx, H x = none → H dx = none → dx ≠ x → sp (.ref x :: (vs ++ dvs)) (upd (upd H dx (.own x)) x (.ins C dx [])) (fun v H2 => v = .non ∧ Q (.ref x) H2) E) :
    wpAny (model X.prog X.w) X.A (call (.ref C) us) (EP X pins σ Q) X.xe s := by
  have hq := h (s.heap.objs.size + 1) s.heap.objs.size (I.hok.fresh (Nat.le_succ _)) (I.hok.fresh (Nat.le_refl _)) (Nat.ne_of_lt (Nat.lt_succ_self _))
  have I2 := Inv.made (C := C) I
  have r2 : Vals (V.ref (s.heap.objs.size + 1) :: (vs ++ dvs)) (Value.ref (s.heap.objs.size + 1) :: (us ++ ds)) := .cons rfl (r.append hd)
  have hl : (Value.ref (s.heap.objs.size + 1) :: us ++ ds).length = ps.length := by
    have e := r2.length
    rw [F.len _ _ _ _ hq] at e
    exact e.symm
  refine wpAny_call (make_map (f := f) I.kIn M.makes M.init (beq_iff_eq.mp M.fn) (codeAny_mono (F.run _ X.stack _ _ ⟨Value.ref (s.heap.objs.size + 1) :: us, []⟩ (Value.ref (s.heap.objs.size + 1) :: (us ++ ds)) _ _ E (hr.make C us [])
    (I2.env0.make C us []) (hb _ (Value.ref (s.heap.objs.size + 1) :: us) I2.kIn hl) r2 hq) fun r s' hq' => ?_))
  cases r with
  | error e => exact hx pins _ _ e s' I2 hq'
  | ok fl =>
    cases fl with
    | ret u =>
      obtain ⟨v, H', I3, rv, ev, q3⟩ := I2.after hq'
      subst ev
      exact ⟨rv, ⟨V.ref (s.heap.objs.size + 1), H', I3, rfl, q3⟩⟩
    | next => exact False.elim hq'
    | brk => exact False.elim hq'
    | cont => exact False.elim hq'
theorem pe_makeS (M : Mk X.K C f) (F : FnOk X.prog X.w X.K X.mg X.base CX k f fd ps sp) (hr : Room (k + 1) X.A) (hg : Gl X x) (hm : X.mg x = some (.ref C)) (hb : Binds X.K fd ps ds) (hd : Vals dvs ds) (hx : ∀ σ, PassesAt CX X σ (E σ))
    (ha : PA X (e :: es) t) (hdb : (x == ("__debug__" : Str)) = false := by decide) (he : starEach (e :: es) X.env = (false, eval e X.env) :: starEach es X.env := by rfl) (hpl : (backTo pos (starEach es X.env)).any (·.1) = false := by rfl) :
    PE X (.Call (.Name x p) (e :: es) [] pos) (tMk C sp dvs E t) := by
  refine ⟨fun pins s σ H Q I h => ?_⟩
  refine wpAny_Call_Name_kw (ld_glob I hg hm ?_ hdb)
  refine PySem.W.callWith_K (h₀ := X.base) I.ok.mod.kin M.kp (thn (ha.run pos pins s σ H _ I h) fun us s1 ⟨vs, H1, I1, r, q⟩ => ⟨I1.kIn, ?_⟩) he hpl
  exact run_makeS M F hr hb hd (hx σ) I1 r q
theorem pe_make0S (M : Mk X.K C f) (F : FnOk X.prog X.w X.K X.mg X.base CX k f fd ps sp) (hr : Room (k + 1) X.A) (hg : Gl X x) (hm : X.mg x = some (.ref C)) (hb : Binds X.K fd ps ds) (hd : Vals dvs ds) (hx : ∀ σ, PassesAt CX X σ (E σ))
    (hdb : (x == ("__debug__" : Str)) = false := by decide) : PE X (.Call (.Name x p) [] [] pos) (tMk C sp dvs E tNil) := by
  refine ⟨fun pins s σ H Q I h => ?_⟩
  refine wpAny_Call_Name_kw (ld_glob I hg hm ?_ hdb)
  exact PySem.W.callWith_K0 I.kIn M.kp (run_makeS (us := []) M F hr hb hd (hx σ) I .nil h)
def tMt (C : Addr) (m : Str) (sp : Sp) (dvs : List V) (E : St → XK) (ta : TE) (t : TA) : TE := fun σ H Q => ta σ H fun x H1 => ∃ a dx fs, x = .ref a ∧ H1 a = some (.ins C dx fs) ∧ fs.lookup m = none ∧
  t σ H1 fun vs H2 => sp (x :: (vs ++ dvs)) H2 Q (E σ)
theorem pe_methS2 {pl : Sem Bool} (he : PE X o ta) (c : Cls X.K C) (hm : Meth X.K C m f) (F : FnOk X.prog X.w X.K X.mg X.base CX k f fd ps sp) (hr : Room k X.A) (hb : Binds X.K fd ps ds) (hd : Vals dvs ds) (hx : ∀ σ, PassesAt CX X σ (E σ)) (ha : PA X (e :: es) t)
    (hst : starEach (e :: es) X.env = (false, eval e X.env) :: starEach es X.env) (hpl : (backTo pos (starEach es X.env)).any (·.1) = false)
    (ht : eval (.Call (.Attribute o m apos) (e :: es) [] pos) X.env = (do
      let ov ← eval o X.env
      standAt apos.atName
      let (f, first) ← holding [ov] (getMethod ov m pl)
      callWith pos f first (backTo pos (starEach (e :: es) X.env)) (backToKw pos (keywordEach [] X.env)))) :
    PE X (.Call (.Attribute o m apos) (e :: es) [] pos) (tMt C m sp dvs E ta t) := by
  refine ⟨fun pins s σ H Q I h => ?_⟩
  refine PySem.W.methodCall_KW (pl := pl) (thn (he.run pins s σ H _ I h) fun u s1 ⟨x, H1, I1, rx, a, dx, fs, ex, ea, l, q⟩ => ?_) ht
  subst ex
  obtain rfl : u = Value.ref a := rx
  refine getmeth_ok I1 ea c hm l ?_
  refine PySem.W.callWith_K (first := [.ref a]) (h₀ := X.base) I.ok.mod.kin hm.kp (thn (ha.run pos pins s1 σ H1 _ I1 q) fun us s2 ⟨vs, H2, I2, r, q2⟩ => ⟨I2.kIn, ?_⟩) hst hpl
  exact run_fnD (us := .ref a :: us) (vs := .ref a :: vs) F hr hb hd (hx σ) I2 (.cons rfl r) q2
theorem pe_meth0S2 {pl : Sem Bool} (he : PE X o ta) (c : Cls X.K C) (hm : Meth X.K C m f) (F : FnOk X.prog X.w X.K X.mg X.base CX k f fd ps sp) (hr : Room k X.A) (hb : Binds X.K fd ps ds) (hd : Vals dvs ds) (hx : ∀ σ, PassesAt CX X σ (E σ))
    (ht : eval (.Call (.Attribute o m apos) [] [] pos) X.env = (do
      let ov ← eval o X.env
      standAt apos.atName
      let (f, first) ← holding [ov] (getMethod ov m pl)
      callWith pos f first (backTo pos (starEach [] X.env)) (backToKw pos (keywordEach [] X.env)))) :
    PE X (.Call (.Attribute o m apos) [] [] pos) (tMt C m sp dvs E ta tNil) := by
  refine ⟨fun pins s σ H Q I h => ?_⟩
  refine PySem.W.methodCall_KW (pl := pl) (thn (he.run pins s σ H _ I h) fun u s1 ⟨x, H1, I1, rx, a, dx, fs, ex, ea, l, q⟩ => ?_) ht
  subst ex
  obtain rfl : u = Value.ref a := rx
  refine getmeth_ok I1 ea c hm l ?_
  exact PySem.W.callWith_K0 (first := [.ref a]) I1.kIn hm.kp (run_fnD (us := [.ref a]) (vs := [.ref a]) F hr hb hd (hx σ) I1 (.cons rfl .nil) q)
def tCf (sp : Sp) (dvs : List V) (E : St → XK) (t : TA) : TE := fun σ H Q => t σ H fun vs H1 => sp (vs ++ dvs) H1 Q (E σ)
/-- C.m(e, ..), m a def of the class at C -/
theorem pe_cfn {pl : Sem Bool} (r : ClX.CRead X.K C mc) (kv : ClX.CVal X.K C mc m (.ref f) (.ref f)) (kp : PySem.W.keepIn X.K (.ref f) = true) (F : FnOk X.prog X.w X.K X.mg X.base CX k f fd ps sp) (hr : Room k X.A) (hb : Binds X.K fd ps ds) (hd : Vals dvs ds) (hx : ∀ σ, PassesAt CX X σ (E σ))
    (hg : Gl X x) (hm : X.mg x = some (.ref C)) (ha : PA X (e :: es) t) (hdb : (x == ("__debug__" : Str)) = false := by decide)
    (hst : starEach (e :: es) X.env = (false, eval e X.env) :: starEach es X.env := by rfl) (hpl : (backTo pos (starEach es X.env)).any (·.1) = false := by rfl)
    (ht : eval (.Call (.Attribute (.Name x p) m apos) (e :: es) [] pos) X.env = (do
      let ov ← eval (.Name x p) X.env
      standAt apos.atName
      let (f, first) ← holding [ov] (getMethod ov m pl)
      callWith pos f first (backTo pos (starEach (e :: es) X.env)) (backToKw pos (keywordEach [] X.env))) := by rfl) :
    PE X (.Call (.Attribute (.Name x p) m apos) (e :: es) [] pos) (tCf sp dvs E t) := by
  refine ⟨fun pins s σ H Q I h => ?_⟩
  refine PySem.W.methodCall_KW (pl := pl) (thn ((pe_glob (v := .ref C) hg hm rfl hdb).run pins s σ H (fun x H1 => x = .ref C ∧ t σ H1 fun vs H2 => sp (vs ++ dvs) H2 Q (E σ)) I ⟨rfl, h⟩) fun u s1 ⟨x, H1, I1, rx, ex, q⟩ => ?_) ht
  subst ex
  obtain rfl : u = Value.ref C := rx
  refine PySem.W.method_cls I1.kIn r.ga (ClX.getcval_ok I1 r kv fun s2 I2 => ?_)
  refine PySem.W.callWith_K (first := []) (h₀ := X.base) I.ok.mod.kin kp (thn (ha.run pos pins s2 σ H1 _ I2 q) fun us s3 ⟨vs, H2, I3, rv, q2⟩ => ⟨I3.kIn, ?_⟩) hst hpl
  exact run_fnD (us := us) (vs := vs) F hr hb hd (hx σ) I3 rv q2
end
/-! #### the rules -/
/-- the class c is made by its name x -/
structure Fmk (P : Program) (w : World) (K : PySem.W.Frag) (mg : Str → Option Value) (base : Heap) (Z : Stc) (k c n : Nat) (x : Str) (dv : List Arg) (D : FD) : Prop where
  ex : ∃ f, Mk K (Z.cls c) f ∧ mg x = some (.ref (Z.cls c)) ∧ Fdf P w K mg base Z k n f dv D
/-- the method m of the class c -/
structure Fmt (P : Program) (w : World) (K : PySem.W.Frag) (mg : Str → Option Value) (base : Heap) (Z : Stc) (k c n : Nat) (m : Str) (D : FD) : Prop where
  ex : ∃ f, Cls K (Z.cls c) ∧ Meth K (Z.cls c) m f ∧ Fdf P w K mg base Z k n f [] D
inductive MtT (P : Program) (w : World) (K : PySem.W.Frag) (mg : Str → Option Value) (base : Heap) (Z : Stc) (k n : Nat) (m : Str) : List (Nat × FD) → Prop where
  | one {c : Nat} {D : FD} (h : Fmt P w K mg base Z k c n m D) (lt : c < cL := by decide) : MtT P w K mg base Z k n m [(c, D)]
  | cons {c : Nat} {D : FD} {l : List (Nat × FD)} (h : Fmt P w K mg base Z k c n m D) (t : MtT P w K mg base Z k n m l) (lt : c < cL := by decide) : MtT P w K mg base Z k n m ((c, D) :: l)
/-- the def m of the class c, called by the class's name x -/
structure Fcf (P : Program) (w : World) (K : PySem.W.Frag) (mg : Str → Option Value) (base : Heap) (Z : Stc) (k n : Nat) (x m : Str) (dv : List Arg) (D : FD) : Prop where
  ex : ∃ f C mc, ClX.CRead K C mc ∧ ClX.CVal K C mc m (.ref f) (.ref f) ∧ PySem.W.keepIn K (.ref f) = true ∧ mg x = some (.ref C) ∧ Fdf P w K mg base Z k n f dv D
theorem Fdf.mono {P : Program} {w : World} {K : PySem.W.Frag} {mg : Str → Option Value} {base : Heap} {Z : Stc} {k k' n : Nat} {f : Addr} {dv : List Arg} {D : FD} (F : Fdf P w K mg base Z k n f dv D) (h : k ≤ k') : Fdf P w K mg base Z k' n f dv D :=
  let ⟨fd, ps, ds, dvs, h1, h2, h3⟩ := F.ex
  ⟨fd, ps, ds, dvs, h1, h2.mono h, h3⟩
theorem Fmt.mono {P : Program} {w : World} {K : PySem.W.Frag} {mg : Str → Option Value} {base : Heap} {Z : Stc} {k k' c n : Nat} {m : Str} {D : FD} (F : Fmt P w K mg base Z k c n m D) (h : k ≤ k') : Fmt P w K mg base Z k' c n m D :=
  let ⟨f, h1, h2, h3⟩ := F.ex
  ⟨f, h1, h2, h3.mono h⟩
theorem MtT.at {P : Program} {w : World} {K : PySem.W.Frag} {mg : Str → Option Value} {base : Heap} {Z : Stc} {k n c : Nat} {m : Str} {D : FD} : ∀ {l : List (Nat × FD)}, MtT P w K mg base Z k n m l → l.lookup c = some D → Fmt P w K mg base Z k c n m D ∧ c < cL
  | _, .one (c := d) h lt, e => by
    rw [List.lookup_cons] at e
    cases q : c == d with
    | true =>
      rw [q] at e
      cases e
      rw [beq_iff_eq.mp q]
      exact ⟨h, lt⟩
    | false =>
      rw [q] at e
      cases e
  | _, .cons (c := d) h t lt, e => by
    rw [List.lookup_cons] at e
    cases q : c == d with
    | true =>
      rw [q] at e
      cases e
      rw [beq_iff_eq.mp q]
      exact ⟨h, lt⟩
    | false =>
      rw [q] at e
      exact t.at e
theorem MtT.some {P : Program} {w : World} {K : PySem.W.Frag} {mg : Str → Option Value} {base : Heap} {Z : Stc} {k n : Nat} {m : Str} : ∀ {l : List (Nat × FD)}, MtT P w K mg base Z k n m l → ∃ c D, Fmt P w K mg base Z k c n m D
  | _, .one h _ => ⟨_, _, h⟩
  | _, .cons h _ _ => ⟨_, _, h⟩
def dMake (cm : Bool) (c : Nat) (D : FD) (n : Nat) (dv : List Arg) (ds : List D1) : DE := fun env st => (dArgs ds env st).bind fun args st1 => if args.length + 1 + dv.length = n then
    ((D (.val (.obj st1.length) :: (args ++ dv)) (st1 ++ [⟨c, []⟩])).cm cm).bind fun r st2 => match r with
      | .val .non => .ok (.val (.obj st1.length)) st2
      | _ => .bad
  else .bad
section
variable {Z : Stc} {X : Cx} {W : WX} {k n c : Nat} {x m : Str} {cm : Bool} {dv : List Arg} {D : FD} {e o : Expr} {es : List Expr} {ds : List D1} {d : DP} {p pos apos : Pos}
/-- a new thing of the store -/
theorem mt_new {K : PySem.W.Frag} {S : Gh} {H H' : Hp} {st : Store} {a : Addr} {o : HO} {p : Ob} (w : Wf S H) (s : StR K Z S H st) (h1 : H a = none) (sm : Same H H') (ha : H' a = some o) (mo : Mb o)
    (hp : ∀ S' : Gh, S'.rho[st.length]? = some a → st.length ∉ S'.dd → Mon S S' → ObR K Z S' H' st.length p) :
    Ext S H ⟨S.rho ++ [a], S.G, S.dd⟩ H' ∧ Wf ⟨S.rho ++ [a], S.G, S.dd⟩ H' ∧ StR K Z ⟨S.rho ++ [a], S.G, S.dd⟩ H' (st ++ [p]) := by
  have mta : ∀ (i : Nat) b, (S.rho ++ [a])[i]? = some b → (i < S.rho.length ∧ S.rho[i]? = some b) ∨ (i = S.rho.length ∧ b = a) := fun i b e' => by
    by_cases hi : i < S.rho.length
    · rw [List.getElem?_append_left hi] at e'
      exact .inl ⟨hi, e'⟩
    · rw [List.getElem?_append_right (by omega)] at e'
      have z := (List.getElem?_eq_some_iff.mp e').1
      have := List.mem_of_getElem? e'
      exact .inr ⟨by simp at z; omega, List.mem_singleton.mp this⟩
  have mtb : ∀ b, Gh.mt ⟨S.rho ++ [a], S.G, S.dd⟩ b → S.mt b ∨ b = a := fun b ⟨i, e, n⟩ => by
    rcases mta i b e with z | z
    · exact .inl ⟨i, z.2, n⟩
    · exact .inr z.2
  have ex : Ext S H ⟨S.rho ++ [a], S.G, S.dd⟩ H' := ⟨⟨[a], rfl⟩, Same.refl _, fun _ h => .inl h, fun b u e _ => sm b u e, fun b h => by
      cases q : H b with
      | none => exact absurd q h
      | some u => rw [sm b u q]; simp, fun b h => (mtb b h).imp id fun z => by rw [z]; exact h1⟩
  have nl : S.rho.length ∉ S.dd := fun z => Nat.lt_irrefl _ (s.dl _ z)
  have ge : (S.rho ++ [a])[st.length]? = some a := by
    rw [s.len, List.getElem?_append_right (Nat.le_refl _)]
    simp
  refine ⟨ex, ⟨fun b u e => sm _ _ (w.same _ _ e), w.frz, fun b h => ?_, fun b h => ?_⟩, ⟨tabs_sy s.tab fun b u e _ => sm b u e, by simp [s.len], fun i j b ei ej di dj => ?_, fun i hi => ?_, fun i q e => ?_⟩⟩
  · rcases mtb b h with h | rfl
    · obtain ⟨u, e, k⟩ := w.ins b h
      exact ⟨u, sm _ _ e, k⟩
    · exact ⟨_, ha, mo⟩
  · rcases mtb b h with h | rfl
    · exact w.ng b h
    · exact (ng_none w h1).g
  · rcases mta i b ei with ⟨z1, z2⟩ | ⟨z1, z2⟩
    · rcases mta j b ej with ⟨y1, y2⟩ | ⟨y1, y2⟩
      · exact s.nd i j b z2 y2 di dj
      · rw [y2] at z2
        exact absurd ⟨i, z2, di⟩ (ng_none w h1).m
    · rcases mta j b ej with ⟨y1, y2⟩ | ⟨y1, y2⟩
      · rw [z2] at y2
        exact absurd ⟨j, y2, dj⟩ (ng_none w h1).m
      · omega
  · have := s.dl i hi
    simp only [List.length_append, List.length_singleton]
    omega
  · by_cases hi : i < st.length
    · rw [List.getElem?_append_left hi] at e
      exact (s.ob i q e).to (fun b z => pre_get ⟨[a], rfl⟩ z) Iff.rfl (fun b u _ _ z => sm b u z) (fun b u z _ => sm b u z) fun vs xs z => RepL.mono ex.mon vs xs z
    · rw [List.getElem?_append_right (by omega)] at e
      obtain ⟨h0, e0⟩ := List.getElem?_eq_some_iff.mp e
      have hi' : i = st.length := by simp at h0; omega
      subst hi'
      simp at e
      subst e
      exact hp _ ge (by rw [s.len]; exact nl) ex.mon
theorem made_ext {K : PySem.W.Frag} {S : Gh} {H : Hp} {st : Store} {a dx : Addr} (hc : c < cL) (w : Wf S H) (s : StR K Z S H st) (h1 : H a = none) (h2 : H dx = none) (h3 : dx ≠ a) :
    Ext S H ⟨S.rho ++ [a], S.G, S.dd⟩ (upd (upd H dx (.own a)) a (.ins (Z.cls c) dx [])) ∧ Wf ⟨S.rho ++ [a], S.G, S.dd⟩ (upd (upd H dx (.own a)) a (.ins (Z.cls c) dx [])) ∧ StR K Z ⟨S.rho ++ [a], S.G, S.dd⟩ (upd (upd H dx (.own a)) a (.ins (Z.cls c) dx [])) (st ++ [⟨c, []⟩]) :=
  mt_new w s h1 (fun b u e => by
    rw [upd_ne (ne_of_none e h1), upd_ne (ne_of_none e h2)]
    exact e) upd_same trivial fun S' e1 e2 _ => .ins a dx [] hc e1 e2 upd_same .nil
theorem snd_make {K : PySem.W.Frag} {ta : TA} {dvs : List V} (hcl : c < cL) (hd : ∀ S H, ArsR K Z S H dv dvs) (h : Snd K Z W (rpA K Z) ta (dArgs ds)) : Snd K Z W (rpE K Z) (tMk (Z.cls c) (spD K Z D n) dvs (EC cm W) ta) (dMake cm c D n dv ds) := by
  refine snd_bind (RPb := rpE K Z) (tb := fun vs σ H1 Q => ∀ x dx, H1 x = none → H1 dx = none → dx ≠ x → spD K Z D n (.ref x :: (vs ++ dvs)) (upd (upd H1 dx (.own x)) x (.ins (Z.cls c) dx [])) (fun v H2 => v = .non ∧ Q (.ref x) H2) (EC cm W σ))
    (db := fun args _ st1 => if args.length + 1 + dv.length = n then ((D (.val (.obj st1.length) :: (args ++ dv)) (st1 ++ [⟨c, []⟩])).cm cm).bind fun r st2 => match r with | .val .non => .ok (.val (.obj st1.length)) st2 | _ => .bad else .bad) h ?_
  intro S σ H env st Q args vs S1 H1 st1 r e1 r1 p1 po a dx f1 f2 f3
  by_cases hn : args.length + 1 + dv.length = n
  · rw [if_pos hn] at po
    obtain ⟨x1, x2, x3⟩ := made_ext (c := c) (Z := Z) hcl r1.wf r1.str f1 f2 f3
    have hx : Rep K Z ⟨S1.rho ++ [a], S1.G, S1.dd⟩ (.obj st1.length) (.ref a) := by
      simp only [Rep]
      refine ⟨a, ?_, rfl⟩
      show (S1.rho ++ [a])[st1.length]? = some a
      rw [r1.str.len, List.getElem?_append_right (Nat.le_refl _)]
      simp
    have ha : ArsR K Z ⟨S1.rho ++ [a], S1.G, S1.dd⟩ (upd (upd H1 dx (.own a)) a (.ins (Z.cls c) dx [])) (.val (.obj st1.length) :: (args ++ dv)) (.ref a :: (vs ++ dvs)) := by
      simp only [ArsR]
      exact ⟨_, _, rfl, hx, (ArsR.mono r1.wf x1 p1).append (hd _ _)⟩
    refine ⟨_, _, _, x2, x3, ha, ?_, ?_⟩
    · rw [← ArsR.length ha, List.length_cons, List.length_append]
      omega
    · refine post_cm (W := W) ?_
      cases ed : (D (.val (.obj st1.length) :: (args ++ dv)) (st1 ++ [⟨c, []⟩])).cm cm with
      | bad => simp only [ed, Out.bind, Post] at po
      | exc cc fs st2 =>
        simp only [ed, Out.bind, Post] at po ⊢
        exact fun cls dd S' H' e w s xr => po cls dd S' H' (x1.trans e) w s xr
      | ok v st2 =>
        simp only [ed, Out.bind] at po
        cases v with
        | val v =>
          cases v with
          | non =>
            simp only [Post] at po ⊢
            exact fun y S' H' e w s q => ⟨by simpa only [RR, Rep] using q, po (.ref a) S' H' (x1.trans e) w s (by simp only [rpE, RR]; exact Rep.mono e.mon _ _ hx)⟩
          | _ => simp only [Post] at po
        | _ => simp only [Post] at po
  · rw [if_neg hn] at po
    exact po.elim
theorem me_make (F : Fmk X.prog X.w X.K X.mg X.base Z k c n x dv D) (hr : Room (k + 1) X.A) (tk : cm = false → Takes X W) (ha : MA Z X W (e :: es) (dArgs ds)) (hg : Gl X x := by rfl)
    (hdb : (x == ("__debug__" : Str)) = false := by decide) (he : starEach (e :: es) X.env = (false, eval e X.env) :: starEach es X.env := by rfl) (hpl : (backTo pos (starEach es X.env)).any (·.1) = false := by rfl) (hcl : c < cL := by decide) :
    ME Z X W (.Call (.Name x p) (e :: es) [] pos) (dMake cm c D n dv ds) := by
  obtain ⟨f, M, hm, F⟩ := F.ex
  obtain ⟨fd, ps, ds', dvs, hn, G, hb, hd, hd2⟩ := F.ex
  obtain ⟨t, h1, h2⟩ := ha
  exact ⟨_, pe_makeS M G hr hg hm hb hd (fun σ => passC tk σ) h1 hdb he hpl, snd_make hcl hd2 h2⟩
theorem me_make0 (F : Fmk X.prog X.w X.K X.mg X.base Z k c n x dv D) (hr : Room (k + 1) X.A) (tk : cm = false → Takes X W) (hg : Gl X x := by rfl)
    (hdb : (x == ("__debug__" : Str)) = false := by decide) (hcl : c < cL := by decide) : ME Z X W (.Call (.Name x p) [] [] pos) (dMake cm c D n dv []) := by
  obtain ⟨f, M, hm, F⟩ := F.ex
  obtain ⟨fd, ps, ds', dvs, hn, G, hb, hd, hd2⟩ := F.ex
  obtain ⟨t, h1, h2⟩ := (show ∃ t, PA X [] t ∧ Snd X.K Z W (rpA X.K Z) t (dArgs []) from ⟨_, pa_nil, fun S σ H env st Q r p => p [] S H (Ext.refl _ _) r.wf r.str (by simp only [rpA, ArsR])⟩)
  exact ⟨_, pe_make0S M G hr hg hm hb hd (fun σ => passC tk σ) hdb, snd_make hcl hd2 (ds := []) fun S σ H env st Q r p => p [] S H (Ext.refl _ _) r.wf r.str (by simp only [rpA, ArsR])⟩
/-! methods -/
def gM (tbl : List (Nat × FD)) (m : Str) : Val → Store → Option FD
  | .obj i, st => match st[i]? with
    | some o => if (o.fs.lookup m).isNone = true then tbl.lookup o.c else none
    | none => none
  | _, _ => none
def dMeth (cm : Bool) (tbl : List (Nat × FD)) (m : Str) (n : Nat) (d : DP) (ds : List D1) : DE := fun env st => (d env st).bind fun v st1 => match gM tbl m v st1 with
  | some D => (dArgs ds env st1).bind fun args st2 => if args.length + 1 = n then (D (.val v :: args) st2).cm cm else .bad
  | none => .bad
theorem snd_meth {K : PySem.W.Frag} {tbl : List (Nat × FD)} {to : TE} {ta : TA} {P : Nat → TE → Prop} (hP : ∀ c D, tbl.lookup c = some D → c < cL ∧ ∃ dvs, (∀ S H, ArsR K Z S H [] dvs) ∧ P c (tMt (Z.cls c) m (spD K Z D n) dvs (EC cm W) to ta)) (hz : ∃ c t', P c t' ∧ ∀ σ H (Q : VK), ∃ Q' : VK, to σ H Q' → t' σ H Q)
    (ho : Snd K Z W (rpP K Z) to d) (h : Snd K Z W (rpA K Z) ta (dArgs ds)) : Snd K Z W (rpE K Z) (fun σ H Q => ∃ c t', P c t' ∧ t' σ H Q) (dMeth cm tbl m n d ds) := by
  intro S σ H env st Q r po
  cases ed : d env st with
  | bad => simp only [dMeth, ed, Out.bind, Post] at po
  | exc cc fs st1 =>
    obtain ⟨c, t', q1, q2⟩ := hz
    obtain ⟨Q', q2⟩ := q2 σ H Q
    refine ⟨c, t', q1, q2 (ho S σ H env st _ r ?_)⟩
    simp only [dMeth, ed, Out.bind, Post] at po ⊢
    exact po
  | ok v st1 =>
    simp only [dMeth, ed, Out.bind] at po
    cases eg : gM tbl m v st1 with
    | none => simp only [eg, Post] at po
    | some D =>
      simp only [eg] at po
      cases v with
      | obj i =>
        cases eo : st1[i]? with
        | none => simp only [gM, eo] at eg; cases eg
        | some ob =>
          by_cases hf : (ob.fs.lookup m).isNone = true
          · simp only [gM, eo, if_pos hf] at eg
            obtain ⟨hcl, dvs, hd, q1⟩ := hP ob.c D eg
            refine ⟨ob.c, _, q1, ho S σ H env st _ r ?_⟩
            simp only [ed, Post]
            intro x S1 H1 e1 w1 s1 px
            obtain ⟨a, dx, fs, rfl, ha, hh, hfs⟩ := str_ob s1 px.p eo hcl
            refine ⟨a, dx, fs, rfl, hh, hfs.lookN (Option.isNone_iff_eq_none.mp hf), ?_⟩
            have r1 := r.ext e1 w1 s1
            refine h S1 σ H1 env st1 _ r1 ?_
            cases ea : dArgs ds env st1 with
            | bad => simp only [ea, Out.bind, Post] at po
            | exc cc fs st2 =>
              simp only [ea, Out.bind, Post] at po ⊢
              exact fun cls dd S' H' e w s xr => po cls dd S' H' (e1.trans e) w s xr
            | ok args st2 =>
              simp only [ea, Out.bind, Post] at po ⊢
              intro vs S2 H2 e2 w2 s2 pa
              by_cases hn : args.length + 1 = n
              · rw [if_pos hn] at po
                have hx : Rep K Z S2 (.obj i) (.ref a) := Rep.mono e2.mon _ _ px.p
                have har : ArsR K Z S2 H2 (.val (.obj i) :: args) (.ref a :: (vs ++ dvs)) := by
                  have q := ArsR.append pa (hd S2 H2)
                  rw [List.append_nil] at q
                  simp only [ArsR]
                  exact ⟨_, _, rfl, hx, q⟩
                refine ⟨S2, st2, _, w2, s2, har, by rw [← ArsR.length har, List.length_cons]; exact hn, ?_⟩
                refine post_cm (W := W) ?_
                cases ec : (D (.val (.obj i) :: args) st2).cm cm with
                | bad => simp only [ec, Post] at po
                | exc cc fs st3 =>
                  simp only [ec, Post] at po ⊢
                  exact fun cls dd S' H' e w s xr => po cls dd S' H' ((e1.trans e2).trans e) w s xr
                | ok y st3 =>
                  simp only [ec, Post] at po ⊢
                  exact fun y S' H' e w s q => po y S' H' ((e1.trans e2).trans e) w s (RR.back q (e1.trans e2).live)
              · rw [if_neg hn] at po
                exact po.elim
          · simp only [gM, eo, if_neg hf] at eg; cases eg
      | _ => simp only [gM] at eg; cases eg
end
section
variable {Z : Stc} {X : Cx} {W : WX} {k n c : Nat} {x m : Str} {cm : Bool} {dv : List Arg} {D : FD} {e o : Expr} {es : List Expr} {ds : List D1} {d : DP} {p pos apos : Pos} {tbl : List (Nat × FD)} {pl : Sem Bool}
theorem me_meth (T : MtT X.prog X.w X.K X.mg X.base Z k n m tbl) (hr : Room k X.A) (tk : cm = false → Takes X W) (ho : MP Z X W o d) (ha : MA Z X W (e :: es) (dArgs ds))
    (hst : starEach (e :: es) X.env = (false, eval e X.env) :: starEach es X.env := by rfl) (hpl : (backTo pos (starEach es X.env)).any (·.1) = false := by rfl)
    (ht : eval (.Call (.Attribute o m apos) (e :: es) [] pos) X.env = (do
      let ov ← eval o X.env
      standAt apos.atName
      let (f, first) ← holding [ov] (getMethod ov m pl)
      callWith pos f first (backTo pos (starEach (e :: es) X.env)) (backToKw pos (keywordEach [] X.env))) := by rfl) : ME Z X W (.Call (.Attribute o m apos) (e :: es) [] pos) (dMeth cm tbl m n d ds) := by
  obtain ⟨to, h1, h2⟩ := ho
  obtain ⟨ta, h3, h4⟩ := ha
  have mk : ∀ c D, Fmt X.prog X.w X.K X.mg X.base Z k c n m D → ∃ dvs, (∀ S H, ArsR X.K Z S H [] dvs) ∧ PE X (.Call (.Attribute o m apos) (e :: es) [] pos) (tMt (Z.cls c) m (spD X.K Z D n) dvs (EC cm W) to ta) := fun c D F => by
    obtain ⟨f, hc, hm, F⟩ := F.ex
    obtain ⟨fd, ps, ds', dvs, hn, G, hb, hd, hd2⟩ := F.ex
    exact ⟨dvs, hd2, pe_methS2 h1 hc hm G hr hb hd (fun σ => passC tk σ) h3 hst hpl ht⟩
  refine ⟨fun σ H Q => ∃ (c : Nat) (t' : TE), PE X (.Call (.Attribute o m apos) (e :: es) [] pos) t' ∧ t' σ H Q, ⟨fun pins s σ H Q I ⟨_, _, p, h⟩ => p.run pins s σ H Q I h⟩, snd_meth (P := fun _ t' => PE X (.Call (.Attribute o m apos) (e :: es) [] pos) t') (fun c D e => ⟨(T.at e).2, mk c D (T.at e).1⟩) ?_ h2 h4⟩
  obtain ⟨c, D, F⟩ := T.some
  obtain ⟨dvs, _, q⟩ := mk c D F
  exact ⟨c, _, q, fun σ H Q => ⟨_, id⟩⟩
theorem me_meth0 (T : MtT X.prog X.w X.K X.mg X.base Z k n m tbl) (hr : Room k X.A) (tk : cm = false → Takes X W) (ho : MP Z X W o d)
    (ht : eval (.Call (.Attribute o m apos) [] [] pos) X.env = (do
      let ov ← eval o X.env
      standAt apos.atName
      let (f, first) ← holding [ov] (getMethod ov m pl)
      callWith pos f first (backTo pos (starEach [] X.env)) (backToKw pos (keywordEach [] X.env))) := by rfl) : ME Z X W (.Call (.Attribute o m apos) [] [] pos) (dMeth cm tbl m n d []) := by
  obtain ⟨to, h1, h2⟩ := ho
  have mk : ∀ c D, Fmt X.prog X.w X.K X.mg X.base Z k c n m D → ∃ dvs, (∀ S H, ArsR X.K Z S H [] dvs) ∧ PE X (.Call (.Attribute o m apos) [] [] pos) (tMt (Z.cls c) m (spD X.K Z D n) dvs (EC cm W) to tNil) := fun c D F => by
    obtain ⟨f, hc, hm, F⟩ := F.ex
    obtain ⟨fd, ps, ds', dvs, hn, G, hb, hd, hd2⟩ := F.ex
    exact ⟨dvs, hd2, pe_meth0S2 h1 hc hm G hr hb hd (fun σ => passC tk σ) ht⟩
  refine ⟨fun σ H Q => ∃ (c : Nat) (t' : TE), PE X (.Call (.Attribute o m apos) [] [] pos) t' ∧ t' σ H Q, ⟨fun pins s σ H Q I ⟨_, _, p, h⟩ => p.run pins s σ H Q I h⟩, snd_meth (ds := []) (P := fun _ t' => PE X (.Call (.Attribute o m apos) [] [] pos) t') (fun c D e => ⟨(T.at e).2, mk c D (T.at e).1⟩) ?_ h2
    (fun S σ H env st Q r p => p [] S H (Ext.refl _ _) r.wf r.str (by simp only [rpA, ArsR]))⟩
  obtain ⟨c, D, F⟩ := T.some
  obtain ⟨dvs, _, q⟩ := mk c D F
  exact ⟨c, _, q, fun σ H Q => ⟨_, id⟩⟩
/-! C.m(e, ..) -/
def dCf (cm : Bool) (D : FD) (n : Nat) (dv : List Arg) (ds : List D1) : DE := fun env st => (dArgs ds env st).bind fun args st1 => if args.length + dv.length = n then (D (args ++ dv) st1).cm cm else .bad
theorem me_cfn (F : Fcf X.prog X.w X.K X.mg X.base Z k n x m dv D) (hr : Room k X.A) (tk : cm = false → Takes X W) (ha : MA Z X W (e :: es) (dArgs ds)) (hg : Gl X x := by rfl) (hdb : (x == ("__debug__" : Str)) = false := by decide)
    (hst : starEach (e :: es) X.env = (false, eval e X.env) :: starEach es X.env := by rfl) (hpl : (backTo pos (starEach es X.env)).any (·.1) = false := by rfl)
    (ht : eval (.Call (.Attribute (.Name x p) m apos) (e :: es) [] pos) X.env = (do
      let ov ← eval (.Name x p) X.env
      standAt apos.atName
      let (f, first) ← holding [ov] (getMethod ov m pl)
      callWith pos f first (backTo pos (starEach (e :: es) X.env)) (backToKw pos (keywordEach [] X.env))) := by rfl) : ME Z X W (.Call (.Attribute (.Name x p) m apos) (e :: es) [] pos) (dCf cm D n dv ds) := by
  obtain ⟨f, C, mc, hR, hV, hk, hm, F⟩ := F.ex
  obtain ⟨fd, ps, ds', dvs, hn, G, hb, hd, hd2⟩ := F.ex
  obtain ⟨t, h1, h2⟩ := ha
  refine ⟨_, pe_cfn hR hV hk G hr hb hd (fun σ => passC tk σ) hg hm h1 hdb hst hpl ht, ?_⟩
  refine snd_bind (RPb := rpE X.K Z) (tb := fun vs σ H Q => spD X.K Z D n (vs ++ dvs) H Q (EC cm W σ)) (db := fun args _ st1 => if args.length + dv.length = n then (D (args ++ dv) st1).cm cm else .bad) h2 ?_
  intro S σ H env st Q args vs S1 H1 st1 r e1 r1 p1 po
  exact tD_of r1.wf r1.str p1 (hd2 _ _) e1.live po
/-! isinstance(o, C) -/
structure IsF (K : PySem.W.Frag) (Z : Stc) (c t : Nat) (b : Bool) : Prop where
  cl : Cls K (Z.cls c)
  ha : PySem.W.findIn K (.ref (Z.cls c)) "__class__" = some (some (.builtin "object.__class__"))
  hn : PySem.W.specialIn K (.builtin "object.__class__") "__get__" = some (some (.builtin "getset_descriptor.__get__"))
  htk : PySem.W.takesIn K (.builtin "object.__class__") = some true
  hm : PySem.W.mroIn K (Z.cls c) (.type "object") = some true
  kit : PySem.W.kitOne K (.ref (Z.cls c)) (.ref (Z.cls t)) = some b
inductive IsT (K : PySem.W.Frag) (Z : Stc) (t : Nat) : List (Nat × Bool) → Prop where
  | nil : IsT K Z t []
  | cons {c : Nat} {b : Bool} {l : List (Nat × Bool)} (h : IsF K Z c t b) (r : IsT K Z t l) (lt : c < cL := by decide) : IsT K Z t ((c, b) :: l)
theorem IsT.at {K : PySem.W.Frag} {Z : Stc} {t c : Nat} {b : Bool} : ∀ {l : List (Nat × Bool)}, IsT K Z t l → l.lookup c = some b → IsF K Z c t b ∧ c < cL
  | _, .nil, e => by cases e
  | _, .cons (c := d) h r lt, e => by
    rw [List.lookup_cons] at e
    cases q : c == d with
    | true =>
      rw [q] at e
      cases e
      rw [beq_iff_eq.mp q]
      exact ⟨h, lt⟩
    | false =>
      rw [q] at e
      exact r.at e
def gIsO (tb : List (Nat × Bool)) : Val → Store → Option Bool
  | .obj i, st => match st[i]? with
    | some o => tb.lookup o.c
    | none => none
  | _, _ => none
def dIsO (tb : List (Nat × Bool)) (d : DP) : DE := fun env st => (d env st).bind fun v st => match gIsO tb v st with
  | some b => .ok (.val (.bl b)) st
  | none => .bad
theorem me_isO {tb : List (Nat × Bool)} {t : Nat} {p2 : Pos} (T : IsT X.K Z t tb) (hi : X.mg "isinstance" = none) (hx : X.mg x = some (.ref (Z.cls t))) (h : MP Z X W e d) (hg : Gl X "isinstance" := by rfl) (hgx : Gl X x := by rfl)
    (hdx : (x == ("__debug__" : Str)) = false := by decide)
    (hs1 : starEach [e, .Name x p2] X.env = (false, eval e X.env) :: starEach [.Name x p2] X.env := by rfl) (hs2 : starEach [.Name x p2] X.env = (false, eval (.Name x p2) X.env) :: starEach [] X.env := by rfl)
    (hpl : (backTo pos (starEach [.Name x p2] X.env)).any (·.1) = false := by rfl) :
    ME Z X W (.Call (.Name "isinstance" p) [e, .Name x p2] [] pos) (dIsO tb d) := by
  obtain ⟨te, h1, h2⟩ := h
  refine ⟨_, pe_callB call_isi hg hi (by decide +kernel) (pa_cons h1 (pa_cons (pe_glob (v := .ref (Z.cls t)) hgx hx rfl hdx) pa_nil hs2) hs1) (by decide) (by decide) hs1 hpl, ?_⟩
  refine snd_bind (RPb := rpE X.K Z) (tb := fun x σ H Q => rIsi X.K [x, .ref (Z.cls t)] H Q) (db := fun v env st => match gIsO tb v st with | some b => .ok (.val (.bl b)) st | none => .bad) h2 ?_
  intro S σ H env st Q v x S1 H1 st1 r e1 r1 p1 po
  cases eg : gIsO tb v st1 with
  | none => simp only [eg, Post] at po
  | some b =>
    simp only [eg, Post] at po
    cases v with
    | obj i =>
      cases eo : st1[i]? with
      | none => simp only [gIsO, eo] at eg; cases eg
      | some ob =>
        simp only [gIsO, eo] at eg
        obtain ⟨F, hlt⟩ := T.at eg
        obtain ⟨a, dx, fs, rfl, ha, hh, hfs⟩ := str_ob r1.str p1.p eo hlt
        exact ⟨_, _, _, _, b, rfl, .own _, .base (.ins hh F.cl F.ha F.hn F.htk F.hm), F.kit, po _ S1 H1 (Ext.refl _ _) r1.wf r1.str (by simp only [rpE, RR, Rep])⟩
    | _ => simp only [gIsO] at eg; cases eg
end
/-! #### made without an __init__ of its own -/
structure Mk0 (K : PySem.W.Frag) (C : Addr) : Prop where
  makes : PySem.W.makesIn K C = true
  init : PySem.W.findIn K (.ref C) "__init__" = some (some (.builtin "object.__init__"))
  kp : PySem.W.keepIn K (.ref C) = true
  top : PySem.W.mroIn K C (.type "object") = some true
section
open NwA PySem.W
theorem run_make00 {X : Cx} {C : Addr} {pins : List (Addr × Obj)} {σ : L2.St} {H : Hp} {s : Shared} {Q : VK} (M : Mk0 X.K C) (I : Inv X pins σ H s)
    (h : ∀ x dx, H x = Option.none → H dx = Option.none → dx ≠ x → Q (.ref x) (upd (upd H dx (.own x)) x (.ins C dx []))) :
    wpAny (model X.prog X.w) X.A (PySem.call (.ref C) []) (EP X pins σ Q) X.xe s := by
  have hq := h (s.heap.objs.size + 1) s.heap.objs.size (I.hok.fresh (Nat.le_succ _)) (I.hok.fresh (Nat.le_refl _)) (Nat.ne_of_lt (Nat.lt_succ_self _))
  have I2 := Inv.made (C := C) I
  refine wpAny_call (make_map0 I.kIn M.makes M.init (fun self => Looks.of_pure (oi_bind _)) ?_)
  have ho : ((s.heap.push PySem.W.emptyDict).push (PySem.W.instObj C s.heap.objs.size)).get? (s.heap.objs.size + 1) = some (PySem.W.instObj C s.heap.objs.size) := by
    have z := Heap.get?_push_size (s.heap.push PySem.W.emptyDict) (o := PySem.W.instObj C s.heap.objs.size) rfl
    rwa [Heap.size_push] at z
  have t1 : Looks (model X.prog X.w) ((s.heap.push PySem.W.emptyDict).push (PySem.W.instObj C s.heap.objs.size)) (typeOf (.ref (s.heap.objs.size + 1))) (.ref C) := NwA.type_at ho rfl
  have t2 : Looks (model X.prog X.w) ((s.heap.push PySem.W.emptyDict).push (PySem.W.instObj C s.heap.objs.size)) (PySem.isInstance (.ref (s.heap.objs.size + 1)) (.type "object")) true := t1.andThen (looks_mroIn I2.kIn M.top)
  refine codeAny_call_builtin oi_plain entry_oi (@check_slot (model X.prog X.w) _ _ _ "object.__init__" "object" "__init__" (.ref (s.heap.objs.size + 1)) [] [] _ oi_kind oi_split t2 (oi_args_any _ [] []) ?_)
  rw [oi_run]
  exact wpAny_pure (And.intro rfl ⟨V.ref (s.heap.objs.size + 1), _, I2, rfl, hq⟩)
end
structure Fm0 (K : PySem.W.Frag) (mg : Str → Option Value) (Z : Stc) (c : Nat) (x : Str) : Prop where
  mk0 : Mk0 K (Z.cls c)
  mg : mg x = some (.ref (Z.cls c))
def dMake0 (c : Nat) : DE := fun _ st => .ok (.val (.obj st.length)) (st ++ [⟨c, []⟩])
theorem me_makeO {Z : Stc} {X : Cx} {W : WX} {c : Nat} {x : Str} {p pos : Pos} (F : Fm0 X.K X.mg Z c x) (hg : Gl X x := by rfl) (hdb : (x == ("__debug__" : Str)) = false := by decide) (hcl : c < cL := by decide) : ME Z X W (.Call (.Name x p) [] [] pos) (dMake0 c) := by
  refine ⟨fun σ H Q => ∀ a dx, H a = none → H dx = none → dx ≠ a → Q (.ref a) (upd (upd H dx (.own a)) a (.ins (Z.cls c) dx [])), ⟨fun pins s σ H Q I h => ?_⟩, fun S σ H env st Q r po a dx f1 f2 f3 => ?_⟩
  · refine wpAny_Call_Name_kw (ld_glob I hg F.mg ?_ hdb)
    exact PySem.W.callWith_K0 I.kIn F.mk0.kp (run_make00 F.mk0 I h)
  · obtain ⟨x1, x2, x3⟩ := made_ext (c := c) (Z := Z) hcl r.wf r.str f1 f2 f3
    refine po (.ref a) _ _ x1 x2 x3 ?_
    simp only [rpE, RR, Rep]
    refine ⟨a, ?_, rfl⟩
    show (S.rho ++ [a])[st.length]? = some a
    rw [r.str.len, List.getElem?_append_right (Nat.le_refl _)]
    simp
/-! #### a def with defaults -/
theorem fun_denD {P : Program} {w : World} {K : PySem.W.Frag} {mg : Str → Option Value} {base : Heap} {x qual : Str} {st : Stmt} {f : Addr} {fd : FuncData} {N ps : List Str} {k : Nat} {b : DS} {dvs : List V} (F : FunD K x qual (defArgs st) (defBody st) (defScope st) dvs [] f fd) (S : FnScope N ps (defScope st))
    (hbody : ∀ (cdv : Value) (A : Around) (outer : List Env) (s : Shared) (H : Hp) (E : XK), Room k (cxOf (L2.CX P w) P w K mg base N qual (defScope st) f cdv A outer s H E).A →
      PassesOwn (model P w) (cxOf (L2.CX P w) P w K mg base N qual (defScope st) f cdv A outer s H E).A (cxOf (L2.CX P w) P w K mg base N qual (defScope st) f cdv A outer s H E).env (cxOf (L2.CX P w) P w K mg base N qual (defScope st) f cdv A outer s H E).xe →
      Takes (cxOf (L2.CX P w) P w K mg base N qual (defScope st) f cdv A outer s H E) (fun cls d _ H => E cls d H) → MSs Z (cxOf (L2.CX P w) P w K mg base N qual (defScope st) f cdv A outer s H E) (fun cls d _ H => E cls d H) (defBody st) b) : FnOk P w K mg base (L2.CX P w) (k + 1) f fd ps (spD K Z (dFun N.length b) ps.length) := by
  refine F.ok S (fun vs H Q E h => ?_) (fun cdv A outer s H vs Q E hr h => ?_)
  · obtain ⟨_, _, _, _, _, _, hl, _⟩ := h
    exact hl
  · obtain ⟨S0, st0, args, w0, s0, ar, hl, po⟩ := h
    obtain ⟨t, h1, h2⟩ := hbody cdv A outer s H E hr (passes_of rfl) (takes_of rfl rfl rfl rfl)
    refine ⟨t, h1, ?_⟩
    have hargs : args.length = vs.length := ArsR.length ar
    refine h2 S0 _ H (args.map (fun a => some a.slot) ++ List.replicate (N.length - args.length) none) st0 _ ⟨w0, s0, ?_, fun i s e => ?_, fun i j si sj l nij e1 o1 e2 a2 q1 q2 => ?_⟩ ?_
    · unfold L2.start
      simp [hargs]
    · obtain ⟨a, ea, es⟩ := start_get e
      obtain ⟨y, e1, e2⟩ := argsR_get ar ea
      refine ⟨y, ?_, ?_⟩
      · unfold L2.start
        have hi : i < vs.length := (List.getElem?_eq_some_iff.mp e1).1
        rw [List.getElem?_append_left (by simpa using hi), List.getElem?_map, e1]
        rfl
      · rw [← es]
        cases a <;> exact e2
    · obtain ⟨a, ea, es⟩ := start_get e1
      rw [← es] at o1
      cases a <;> cases o1
    · simp only [dFun, finO] at po
      cases eb : b (args.map (fun a => some a.slot) ++ List.replicate (N.length - args.length) none) st0 with
      | bad => simp only [eb, Post] at po
      | bk env' st' => simp only [eb, Post] at po
      | ct env' st' => simp only [eb, Post] at po
      | nx env' st' =>
        simp only [eb, Post] at po
        intro S' σ' H' e r
        have no : ∀ a, ¬ OwnA (args.map (fun a => some a.slot) ++ List.replicate (N.length - args.length) none) (L2.start N vs) a := fun a ⟨i, s, e1, o1, _⟩ => by
          obtain ⟨a, ea, es⟩ := start_get e1
          rw [← es] at o1
          cases a <;> cases o1
        exact po .non S' H' ⟨e.pre, e.sg, fun a h => (e.fresh a h).elim .inl fun z => z.elim .inr fun z => absurd z (no a), fun a o h n => e.frame a o h n (no a), e.live, e.rfresh⟩ r.wf r.str (by simp only [RR, Rep])
      | rt rr st' =>
        simp only [eb, Post] at po
        intro x S' H' e w' s' q
        have no : ∀ a, ¬ OwnA (args.map (fun a => some a.slot) ++ List.replicate (N.length - args.length) none) (L2.start N vs) a := fun a ⟨i, s, e1, o1, _⟩ => by
          obtain ⟨a, ea, es⟩ := start_get e1
          rw [← es] at o1
          cases a <;> cases o1
        refine po x S' H' ⟨e.pre, e.sg, fun a h => (e.fresh a h).elim .inl fun z => z.elim .inr fun z => absurd z (no a), fun a o h n => e.frame a o h n (no a), e.live, e.rfresh⟩ w' s' ?_
        cases rr with
        | val v => exact q
        | own vs =>
          obtain ⟨l, xs, e1, e2, e3, e4, e5⟩ := q
          exact ⟨l, xs, e1, e2, e3, e4.elim id fun z => absurd z (no l), e5⟩
        | ownd ks vs =>
          obtain ⟨l, xs, e1, e2, e3, e4, e5⟩ := q
          exact ⟨l, xs, e1, e2, e3, e4.elim id fun z => absurd z (no l), e5⟩
      | exc c fs env' st' =>
        simp only [eb, Post] at po
        intro cls d S' σ' H' e r xr
        have no : ∀ a, ¬ OwnA (args.map (fun a => some a.slot) ++ List.replicate (N.length - args.length) none) (L2.start N vs) a := fun a ⟨i, s, e1, o1, _⟩ => by
          obtain ⟨a, ea, es⟩ := start_get e1
          rw [← es] at o1
          cases a <;> cases o1
        exact po cls d S' H' ⟨e.pre, e.sg, fun a h => (e.fresh a h).elim .inl fun z => z.elim .inr fun z => absurd z (no a), fun a o h n => e.frame a o h n (no a), e.live, e.rfresh⟩ r.wf r.str xr
theorem fd_D {K : PySem.W.Frag} {x qual : Str} {st : Stmt} {f T : Addr} {oc ot kV doc pm cdv ct : Value} {od an ott : Option Addr} {osl tsl : Array (Option Value)} {nT : Nat} (l : K.lookup f = some ⟨oc, od, .func (PySem.W.fnOf x qual (defArgs st) (defBody st) (defScope st) (.ref T) kV doc pm an cdv ct), osl⟩)
    (c : PySem.W.codeIn K cdv qual = true) (k : PySem.W.keepIn K (.ref f) = true) (t : K.lookup T = some ⟨ot, ott, .seq #[.none] nT, tsl⟩) :
    FunD K x qual (defArgs st) (defBody st) (defScope st) [.non] [] f (PySem.W.fnOf x qual (defArgs st) (defBody st) (defScope st) (.ref T) kV doc pm an cdv ct) :=
  ⟨⟨oc, od, _, kV, doc, pm, an, cdv, ct, osl, rfl, l, c, .inr ⟨by simp, T, _, [.none], nT, rfl, t, rfl, .cons rfl .nil⟩, .inl rfl⟩, k⟩
theorem fdf_of {P : Program} {w : World} {K : PySem.W.Frag} {mg : Str → Option Value} {base : Heap} {Z : Stc} {k n : Nat} {f : Addr} {fd : FuncData} {ps : List Str} {D : FD} (hn : ps.length = n) (F : FnOk P w K mg base (L2.CX P w) k f fd ps (spD K Z D n)) (b : Binds K fd ps []) : Fdf P w K mg base Z k n f [] D :=
  ⟨fd, ps, [], [], hn, F, b, .nil, fun S H => by simp only [ArsR]⟩
theorem fdf_D {P : Program} {w : World} {K : PySem.W.Frag} {mg : Str → Option Value} {base : Heap} {Z : Stc} {k n : Nat} {f : Addr} {fd : FuncData} {ps : List Str} {D : FD} (hn : ps.length = n) (F : FnOk P w K mg base (L2.CX P w) k f fd ps (spD K Z D n)) (b : ∃ ds, Vals [V.non] ds ∧ Binds K fd ps ds) : Fdf P w K mg base Z k n f [.val .non] D := by
  obtain ⟨ds, h1, h2⟩ := b
  exact ⟨fd, ps, ds, [.non], hn, F, h2, h1, fun S H => by simp only [ArsR]; exact ⟨_, _, rfl, by simp only [ArR, Rep], rfl⟩⟩
theorem fdf_D0 {P : Program} {w : World} {K : PySem.W.Frag} {mg : Str → Option Value} {base : Heap} {Z : Stc} {k n : Nat} {f : Addr} {fd : FuncData} {ps : List Str} {D : FD} (hn : ps.length = n) (F : FnOk P w K mg base (L2.CX P w) k f fd ps (spD K Z D n)) (b : ∃ ds, Vals (List.drop 1 [V.non]) ds ∧ Binds K fd ps ds) : Fdf P w K mg base Z k n f [] D := by
  obtain ⟨ds, h1, h2⟩ := b
  cases h1
  exact fdf_of hn F h2
theorem sub_eq {K : PySem.W.Frag} {D C : Addr} {b : Bool} (h1 : PySem.W.subIn K (.ref D) (.ref C) = some b) (h2 : PySem.W.subIn K (.ref D) (.ref D) = some true) (e : D = C) : b = true := by
  subst e
  exact Option.some.inj (h1.symm.trans h2)
/-! `is True`, `is False` -/
@[simp] def gIsB : Val → Val → Option R
  | .int _, .bl _ => some (.val (.bl false))
  | .non, .bl _ => some (.val (.bl false))
  | .bl a, .bl b => some (.val (.bl (decide (a = b))))
  | _, _ => none
theorem os_isB {Z : Stc} {X : Cx} : OpS Z X (compareOp .Is) gIsB := by
  intro pins s σ H x y v u Q I rx ry ⟨S, a, b, r, w, pa, pb, eg, q⟩
  unfold gIsB at eg
  split at eg
  · rename_i i c
    cases eg
    have e1 : x = V.int i := by simpa only [PRep, Rep] using pa
    have e2 : y = V.bl c := by simpa only [PRep, Rep] using pb
    subst e1 e2
    obtain ⟨t, rfl⟩ := (show ∃ t, v = Value.int i t from rx)
    cases (show u = Value.bool c from ry)
    exact PySem.wpAny_is_other rfl (fun z => nomatch z) ⟨.bl false, H, I, rfl, q_val w q (by simp only [Rep])⟩
  · rename_i c
    cases eg
    have e1 : x = V.non := by simpa only [PRep, Rep] using pa
    have e2 : y = V.bl c := by simpa only [PRep, Rep] using pb
    subst e1 e2
    cases (show v = Value.none from rx)
    cases (show u = Value.bool c from ry)
    exact PySem.wpAny_is_other rfl (fun z => nomatch z) ⟨.bl false, H, I, rfl, q_val w q (by simp only [Rep])⟩
  · rename_i c d
    cases eg
    have e1 : x = V.bl c := by simpa only [PRep, Rep] using pa
    have e2 : y = V.bl d := by simpa only [PRep, Rep] using pb
    subst e1 e2
    cases (show v = Value.bool c from rx)
    cases (show u = Value.bool d from ry)
    by_cases e : c = d
    · subst e
      exact PySem.wpAny_is_self rfl ⟨.bl true, H, I, rfl, q_val w q (by simp only [Rep, decide_true])⟩
    · exact PySem.wpAny_is_other rfl (fun z => e (Value.bool.inj z)) ⟨.bl false, H, I, rfl, q_val w q (by simp only [Rep, e, decide_false])⟩
  · cases eg
end Eg

namespace Eg
open PySem L2
/-! min(l, default = d), d a written whole number -/
def gMinD (d : Int) : List Val → Option R
  | [v] => match lstOf v with
    | some vs => match intsOf vs with
      | some [] => some (.val (.int d))
      | some (n :: ns) => some (.val (.int (minI (n :: ns))))
      | none => none
    | none => none
  | _ => none
theorem minOf_spec (x : Int) (xs : List Int) : PySem.W.minOf x xs ∈ x :: xs ∧ ∀ y ∈ x :: xs, PySem.W.minOf x xs ≤ y := by
  unfold PySem.W.minOf
  induction xs generalizing x with
  | nil => simp
  | cons y ys ih =>
    rw [List.foldl_cons]
    have lt : (PySem.W.DatumOrd.lt y x = true) ↔ y < x := by
      show decide (y < x) = true ↔ _
      simp
    by_cases c : y < x
    · rw [if_pos (lt.mpr c)]
      obtain ⟨h1, h2⟩ := ih y
      refine ⟨List.mem_cons_of_mem _ h1, fun z hz => ?_⟩
      rcases List.mem_cons.mp hz with rfl | hz
      · exact Int.le_trans (h2 y List.mem_cons_self) (by omega)
      · exact h2 z hz
    · rw [if_neg (fun h => c (lt.mp h))]
      obtain ⟨h1, h2⟩ := ih x
      refine ⟨?_, fun z hz => ?_⟩
      · rcases List.mem_cons.mp h1 with h | h
        · rw [h]; exact List.mem_cons_self
        · exact List.mem_cons_of_mem _ (List.mem_cons_of_mem _ h)
      · rcases List.mem_cons.mp hz with rfl | hz
        · exact h2 z List.mem_cons_self
        · rcases List.mem_cons.mp hz with rfl | hz
          · exact Int.le_trans (h2 x List.mem_cons_self) (by omega)
          · exact h2 z (List.mem_cons_of_mem _ hz)
section
variable {Z : Stc} {X : Cx} {W : WX}
def rMD (K : PySem.W.Frag) (Z : Stc) (d : Int) : List V → List V → Hp → VK → Prop := fun xs zs H Q => ∃ S vs r, Wf S H ∧ PRepL K Z S H vs xs ∧ zs = [.int d] ∧ gMinD d vs = some r ∧ ∀ x' S' H', ExtP S H S' H' → RR K Z S' H H' r x' → Q x' H'
theorem cr_minD {k : Nat} {d : Int} (hr : Room k X.A) (hc : X.calm = true) : CallRK X (.builtin "min") [Str.ofString "default"] (rMD X.K Z d) := by
  intro pins s σ H xs zs us ws Q I rs rz ⟨S, vs, r, w, pr, ez, eg, q⟩
  subst ez
  unfold gMinD at eg
  split at eg
  · rename_i v
    split at eg
    · rename_i vals e
      obtain ⟨x, rfl, p1⟩ := prep1 pr
      obtain ⟨a, ys, rfl, hs, r1⟩ := lst_rep w p1 e
      obtain ⟨its, rv, pl, hz⟩ := I.list hs
      obtain rfl := Vals.ref1 rs
      obtain ⟨u1, rfl, e1⟩ := vals1 rz
      obtain ⟨tk0, rfl⟩ := (show ∃ t, u1 = Value.int d t from e1)
      have hu : X.A.units + 1 + PySem.W.Datum.depth Int < cLine := by
        have := hr.un
        show X.A.units + 1 + 0 < cLine
        omega
      cases en : intsOf vals with
      | none => rw [en] at eg; cases eg
      | some ns =>
        have ey := repL_intsOf r1 en
        subst ey
        refine PySem.W.min_list_datum_default (α := Int) (xs := ns) (I.ok.hd hc) pl.isList (PySem.W.HoldAll.of_ints rv.ints) hu (fun e0 h' tk k => ?_) fun y ys i v h' tk e0 hi H k => ?_
        · subst e0
          rw [en] at eg
          cases eg
          exact ⟨.int d, H, I.kept k, ⟨_, rfl⟩, q_val w q (by simp only [Rep])⟩
        · subst e0
          rw [en] at eg
          cases eg
          obtain ⟨t, rfl⟩ := PySem.W.int_of_holds H
          obtain ⟨k1, k2⟩ := minI_spec (ns := y :: ys) (by simp)
          obtain ⟨m1, m2⟩ := minOf_spec y ys
          have em : PySem.W.minOf y ys = minI (y :: ys) := Int.le_antisymm (m2 _ k1) (k2 _ m1)
          rw [em]
          exact ⟨.int _, _, I.kept k, ⟨_, rfl⟩, q_val w q (by simp only [Rep])⟩
    · cases eg
  · cases eg
theorem me_minD {e : Expr} {d : DP} {i : Int} {j : Nat} {p pk kp pos : Pos} {k : Nat} (hr : Room k X.A) (hc : X.calm = true) (hm : X.mg "min" = none) (ha : MPs Z X W [e] (dVals [d])) (hg : Gl X "min" := by rfl)
    (hd : PE X (.Constant (.int i) j pk) (tC (.int i)) := by exact pe_int)
    (he : backTo pos (starEach [e] X.env) = (false, eval e X.env) :: backTo pos (starEach [] X.env) := by rfl) (hpl : (backTo pos (starEach [e] X.env)).any (·.1) = false := by rfl)
    (hall : (backToKw pos (keywordEach [⟨some "default", .Constant (.int i) j pk, kp⟩] X.env)).all (·.1.isSome) = true := by rfl) (hnone : (backToKw pos (keywordEach [⟨some "default", .Constant (.int i) j pk, kp⟩] X.env)).any (·.1.isNone) = false := by rfl) (hks : (backToKw pos (keywordEach [⟨some "default", .Constant (.int i) j pk, kp⟩] X.env)).filterMap (·.1) = [Str.ofString "default"] := by rfl) :
    ME Z X W (.Call (.Name "min" p) [e] [⟨some "default", .Constant (.int i) j pk, kp⟩] pos) (dCB (gMinD i) [d]) := by
  obtain ⟨t, h1, h2⟩ := ha
  refine ⟨_, pe_callBK (cr_minD (Z := Z) (d := i) hr hc) hg hm (by decide +kernel) h1 (pk_cons hd pk_nil) (he := he) (hpl := hpl) (hall := hall) (hnone := hnone) (hks := hks), ?_⟩
  refine snd_bind (RPb := rpE X.K Z) (tb := fun xs σ H Q => rMD X.K Z i xs [.int i] H Q) (db := fun vs env st => fromO (gMinD i vs) st) h2 ?_
  intro S σ H env st Q vs xs S1 H1 st1 r e1 r1 p1 po
  cases eg : gMinD i vs with
  | none => simp only [eg, fromO, Post] at po
  | some res =>
    simp only [eg, fromO, Post] at po
    exact ⟨S1, vs, res, r1.wf, p1.p, rfl, eg, fun x' S' H' e4 rr => po x' S' H' e4.ext e4.wf (r1.str.extP e4) (rr.back e1.live)⟩
end
end Eg

/-! A def that is handed the caught exception within the suite: it tests its classes, raises nothing and calls none. -/
namespace Eg
open PySem L2
/-- what such a def promises: p is the exception's object -/
structure FnQ (P : Program) (w : World) (K : PySem.W.Frag) (mg : Str → Option Value) (base : Heap) (k : Nat) (f : Addr) (fd : FuncData) (ps : List Str) (p : Addr × Obj) (sp : Sp) : Prop where
  len : ∀ vs H Q E, sp vs H Q E → vs.length = ps.length
  run : ∀ (A : Around) (outer : List Env) (s : Shared) (H : Hp) (args : Args) (us : List Value) (vs : List V) (Q : VK) (E : XK), L2H.RoomH k A → L2H.PinOk outer H s p → Env0 P w K mg base A outer s H → BindsTo s fd args (ps.zip us) → Vals vs us → sp vs H Q E →
    codeAny (model P w) A (.call (.ref f) args) (CR (L2.CX P w) outer P w H s Q E) s
theorem fn_ofQ {P : Program} {w : World} {K : PySem.W.Frag} {mg : Str → Option Value} {base : Heap} {k : Nat} {f : Addr} {name qual : Str} {params : Arguments} {body : List Stmt} {scope : Scope} {dV kV doc pm cdv ct oc : Value} {an od : Option Addr}
    {osl : Array (Option Value)} {N ps : List Str} {sp : Sp} {p : Addr × Obj} (lk : K.lookup f = some ⟨oc, od, .func (PySem.W.fnOf name qual params body scope dV kV doc pm an cdv ct), osl⟩) (hcd : PySem.W.codeIn K cdv qual = true) (S : FnScope N ps scope)
    (len : ∀ vs H Q E, sp vs H Q E → vs.length = ps.length)
    (hbody : ∀ (A : Around) (outer : List Env) (s : Shared) (H : Hp) (vs : List V) (Q : VK) (E : XK), sp vs H Q E →
      ∃ t, PSs (L2H.cxH (L2.CX P w) P w K mg base N qual scope f cdv A outer s H E p) body t ∧ t { nx := fun _ H' => Q .non H', rt := Q } (L2.start N vs) H) :
    FnQ P w K mg base (k + 1) f (PySem.W.fnOf name qual params body scope dV kV doc pm an cdv ct) ps p sp := by
  refine ⟨len, fun A outer s H args us vs Q E hr hpin e0 hb r hsp => ?_⟩
  have hl := len _ _ _ _ hsp
  have KX : K.In s.heap := e0.mod.kin.keeps fun b o e => (e0.bs b o e).1
  have lim : s.heap.NoLimit := e0.mod.nolimit.keeps fun b o e => (e0.bs b o e).1
  have hkind : ∀ y ∈ ps.zip us, scope.names.lookup y.1 = some .local ∨ (scope.names.lookup y.1 = some .cell ∧ ((cellsFrom (s.heap.objs.size + 1) scope.names []).lookup y.1).isSome = true) := fun ⟨n, v⟩ hy => by
    rcases S.par n (List.of_mem_zip hy).1 with q | q
    · exact .inl q
    · exact .inr ⟨q, PySem.W.cellsFrom_some _ _ _ (.inl q)⟩
  refine codeAny_call_function hr.depth (KX _ _ lk) rfl S.co S.gen rfl (PySem.W.codeRec_of KX hcd) (hb _ _ _ _ ?_)
  refine wpAny_newFunctionEnv_cells S.kind hkind fun env he s1 x => ?_
  subst he
  refine ⟨lim.keeps x.toInCall.keep, codeAny_func ?_⟩
  obtain ⟨t, ht, hq⟩ := hbody A outer s H vs Q E hsp
  have I : Inv (L2H.cxH (L2.CX P w) P w K mg base N qual scope f cdv A outer s H E p) [] (L2.start N vs) H s1 := L2H.inv_startH S hpin e0 hl r x
  refine wpAny_mono (ht.run [] s1 (L2.start N vs) H _ I hq) (fun fl s' hs => ?_) fun e s' hs => hs
  have fin : ∀ {σ' : St} {H' : Hp} {v : V} {u : Value}, Inv (L2H.cxH (L2.CX P w) P w K mg base N qual scope f cdv A outer s H E p) [] σ' H' s' → RelV v u → Q v H' → CE outer P w H s Q u s' :=
    fun {σ' H' v u} J rv q => ⟨v, H', J.os, J.bare, J.base, J.hok, rv, q⟩
  cases fl with
  | ret u =>
    obtain ⟨v, σ', H', J, rv, q⟩ := hs
    exact fin J rv q
  | next =>
    obtain ⟨σ', H', J, q⟩ := hs
    exact fin (v := V.non) (u := Value.none) J rfl q
  | brk =>
    obtain ⟨_, _, _, q⟩ := hs
    exact False.elim q
  | cont =>
    obtain ⟨_, _, _, q⟩ := hs
    exact False.elim q
section
variable {X : Cx} {k : Nat} {f : Addr} {fd : FuncData} {ps : List Str} {sp : Sp} {E : St → XK} {x : Str} {q pos : Pos} {e : Expr} {es : List Expr} {t : TA} {p : Addr × Obj}
theorem run_fnQ {pins : List (Addr × Obj)} {σ : St} {H : Hp} {s : Shared} {Q : VK} {us : List Value} {vs : List V} (F : FnQ X.prog X.w X.K X.mg X.base k f fd ps p sp) (hr : L2H.RoomH k X.A) (hp : p ∈ X.pn) (hb : Binds X.K fd ps []) (hx : PassesAt (L2.CX X.prog X.w) X σ (E σ))
    (I : Inv X pins σ H s) (r : Vals vs us) (h : sp vs H Q (E σ)) : wpAny (model X.prog X.w) X.A (call (.ref f) us) (EP X pins σ Q) X.xe s := by
  have hl : us.length = ps.length := by rw [← r.length]; exact F.len _ _ _ _ h
  have b := hb s us I.kIn (by rw [List.append_nil]; exact hl)
  rw [List.append_nil] at b
  have P1 := I.pin p (List.mem_append_left _ hp)
  have hpin : L2H.PinOk X.stack H s p := ⟨P1.1, P1.2.1, fun hm => (List.mem_cons.mp (I.stkSub p.1 hm)).elim P1.2.2.1 P1.2.2.2.1, P1.2.2.2.2⟩
  refine wpAny_call (codeAny_mono (F.run X.A X.stack s H ⟨us, []⟩ us vs Q (E σ) hr hpin I.env0 b r h) fun r s' hq => ?_)
  cases r with
  | error e => exact hx pins H s e s' I hq
  | ok fl =>
    cases fl with
    | ret u => exact I.after hq
    | next => exact False.elim hq
    | brk => exact False.elim hq
    | cont => exact False.elim hq
theorem pe_callQ (F : FnQ X.prog X.w X.K X.mg X.base k f fd ps p sp) (hr : L2H.RoomH k X.A) (hp : p ∈ X.pn) (hg : Gl X x) (hm : X.mg x = some (.ref f)) (hk : PySem.W.keepIn X.K (.ref f) = true) (hb : Binds X.K fd ps []) (hx : ∀ σ, PassesAt (L2.CX X.prog X.w) X σ (E σ))
    (ha : PA X (e :: es) t) (hdb : (x == ("__debug__" : Str)) = false := by decide) (he : starEach (e :: es) X.env = (false, eval e X.env) :: starEach es X.env := by rfl) (hpl : (backTo pos (starEach es X.env)).any (·.1) = false := by rfl) :
    PE X (.Call (.Name x q) (e :: es) [] pos) (tCallS sp E t) := by
  refine ⟨fun pins s σ H Q I h => ?_⟩
  refine wpAny_Call_Name_kw (ld_glob I hg hm ?_ hdb)
  refine PySem.W.callWith_K (h₀ := X.base) I.ok.mod.kin hk (thn (ha.run pos pins s σ H _ I h) fun us s1 ⟨vs, H1, I1, r, q⟩ => ⟨I1.kIn, ?_⟩) he hpl
  exact run_fnQ F hr hp hb (hx σ) I1 r q
end
/-- the promise by a denotation: the one argument is the exception -/
def spQ (K : PySem.W.Frag) (Z : Stc) (a : Addr) (n c : Nat) (b : DS) : Sp := fun vs H Q _ => ∃ S st, Wf S H ∧ StR K Z S H st ∧ vs = [.ref a] ∧ Post K Z S H (fun S' H' r x => RR K Z S' H H' r x) Q (fun _ _ _ => False) (finO (b (some (.exn c) :: List.replicate n none) st))
theorem fun_denQ {P : Program} {w : World} {K : PySem.W.Frag} {mg : Str → Option Value} {base : Heap} {Z : Stc} {x qual y : Str} {st : Stmt} {f : Addr} {fd : FuncData} {N : List Str} {k c : Nat} {b : DS} {p : Addr × Obj} (F : Fun K x qual st f fd) (S : FnScope (y :: N) [y] (defScope st))
    (hbody : ∀ (cdv : Value) (A : Around) (outer : List Env) (s : Shared) (H : Hp) (E : XK),
      MSs (Z.at p.1) (L2H.cxH (L2.CX P w) P w K mg base (y :: N) qual (defScope st) f cdv A outer s H E p) W0 (defBody st) b) : FnQ P w K mg base (k + 1) f fd [y] p (spQ K (Z.at p.1) p.1 N.length c b) := by
  obtain ⟨oc, od, kV, doc, pm, an, cdv, ct, osl, rfl, lk, hcd⟩ := F.ex
  refine fn_ofQ lk hcd S (fun vs H Q E h => ?_) (fun A outer s H vs Q E h => ?_)
  · obtain ⟨_, _, _, _, rfl, _⟩ := h
    rfl
  · obtain ⟨S0, st0, w0, s0, rfl, po⟩ := h
    obtain ⟨t, h1, h2⟩ := hbody cdv A outer s H E
    refine ⟨t, h1, ?_⟩
    have get : ∀ {i : Nat} {s : Slot}, ((some (Slot.exn c) :: List.replicate N.length none : Evn))[i]? = some (some s) → i = 0 ∧ s = .exn c := fun {i s} e => by
      cases i with
      | zero => simp at e; exact ⟨rfl, e.symm⟩
      | succ i =>
        rw [List.getElem?_cons_succ, List.getElem?_replicate] at e
        split at e <;> cases e
    have noO : ∀ a, ¬ OwnA (some (Slot.exn c) :: List.replicate N.length none) (L2.start (y :: N) [V.ref p.1]) a := fun a ⟨i, s, e1, o1, _⟩ => by
      obtain ⟨_, rfl⟩ := get e1
      cases o1
    refine h2 S0 _ H (some (.exn c) :: List.replicate N.length none) st0 _ ⟨w0, s0, ?_, fun i s e => ?_, fun i j si sj l nij e1 o1 e2 a2 q1 q2 => ?_⟩ ?_
    · unfold L2.start
      simp
    · obtain ⟨rfl, rfl⟩ := get e
      exact ⟨.ref p.1, by simp [L2.start], rfl⟩
    · obtain ⟨_, rfl⟩ := get e1
      cases o1
    · simp only [finO] at po
      cases eb : b (some (.exn c) :: List.replicate N.length none) st0 with
      | bad => simp only [eb, Post] at po
      | bk env' st' => simp only [eb, Post] at po
      | ct env' st' => simp only [eb, Post] at po
      | nx env' st' =>
        simp only [eb, Post] at po
        intro S' σ' H' e r
        exact po .non S' H' ⟨e.pre, e.sg, fun a h => (e.fresh a h).elim .inl fun z => z.elim .inr fun z => absurd z (noO a), fun a o h n => e.frame a o h n (noO a), e.live, e.rfresh⟩ r.wf r.str (by simp only [RR, Rep])
      | rt rr st' =>
        simp only [eb, Post] at po
        intro x S' H' e w' s' q
        refine po x S' H' ⟨e.pre, e.sg, fun a h => (e.fresh a h).elim .inl fun z => z.elim .inr fun z => absurd z (noO a), fun a o h n => e.frame a o h n (noO a), e.live, e.rfresh⟩ w' s' ?_
        cases rr with
        | val v => exact q
        | own vs =>
          obtain ⟨l, xs, e1, e2, e3, e4, e5⟩ := q
          exact ⟨l, xs, e1, e2, e3, e4.elim id fun z => absurd z (noO l), e5⟩
        | ownd ks vs =>
          obtain ⟨l, xs, e1, e2, e3, e4, e5⟩ := q
          exact ⟨l, xs, e1, e2, e3, e4.elim id fun z => absurd z (noO l), e5⟩
      | exc c' fs env' st' =>
        simp only [eb, Post] at po
        intro cls d S' σ' H' e r xr
        exact po cls d S' H' ⟨e.pre, e.sg, fun a h => (e.fresh a h).elim .inl fun z => z.elim .inr fun z => absurd z (noO a), fun a o h n => e.frame a o h n (noO a), e.live, e.rfresh⟩ r.wf r.str xr
/-- the def x of the module, handed a caught one of the classes Ds -/
structure FdQ (P : Program) (w : World) (K : PySem.W.Frag) (mg : Str → Option Value) (base : Heap) (Z : Stc) (Ds : List Nat) (k : Nat) (x : Str) (n : Nat) (b : Nat → DS) : Prop where
  ex : ∃ f fd y, (∀ (p : Addr × Obj) (c : Nat), c ∈ Ds → Zc (.ref (Z.cls c)) none p.2 → (∃ vs, p.2.data = .fields vs) → FnQ P w K mg base k f fd [y] p (spQ K (Z.at p.1) p.1 n c (b c))) ∧ mg x = some (.ref f) ∧ PySem.W.keepIn K (.ref f) = true ∧ Binds K fd [y] []
@[simp] def dCallQ (n c : Nat) (b : DS) (i : Nat) : DE := fun env st => match env[i]? with
  | some (some (.exn _)) => finO (b (some (.exn c) :: List.replicate n none) st)
  | _ => .bad
section
variable {Z : Stc} {X : Cx} {a : Addr} {oe : Obj} {pn : List (Addr × Obj)}
theorem me_callQ {Ds : List Nat} {c i k n : Nat} {x en : Str} {b : Nat → DS} {p pe pos : Pos} (F : FdQ X.prog X.w X.K X.mg X.base Z Ds k x n b) (hr : Room k X.A) (hc : c ∈ Ds) (hz : Zc (.ref (Z.cls c)) none oe) (hf : ∃ vs, oe.data = .fields vs)
    (hv : PE (X.suite a ((a, oe) :: pn)) (.Name en pe) (tVar i)) (hg : Gl X x := by rfl) (hdb : (x == ("__debug__" : Str)) = false := by decide)
    (he : starEach [.Name en pe] X.env = (false, eval (.Name en pe) X.env) :: starEach [] X.env := by rfl) (hpl : (backTo pos (starEach [] X.env)).any (·.1) = false := by rfl) :
    ME (Z.at a) (X.suite a ((a, oe) :: pn)) W0 (.Call (.Name x p) [.Name en pe] [] pos) (dCallQ n c (b c) i) := by
  obtain ⟨f, fd, y, F, hm, hk, hb⟩ := F.ex
  have hr' : L2H.RoomH k (X.suite a ((a, oe) :: pn)).A := ⟨hr.dp, hr.un⟩
  refine ⟨_, pe_callQ (X := X.suite a ((a, oe) :: pn)) (p := (a, oe)) (E := fun _ _ _ _ => False) (F (a, oe) c hc hz hf) hr' List.mem_cons_self hg hm hk hb (fun σ => fun _ _ _ _ _ _ ⟨_, _, _, _, _, _, _, _, _, _, _, _, q⟩ => q.elim) (pa_cons (X := X.suite a ((a, oe) :: pn)) hv pa_nil he) hdb he hpl, fun S σ H env st Q r po => ?_⟩
  unfold dCallQ at po
  split at po
  · rename_i c' e
    obtain ⟨x, k1, k2⟩ := r.sl i _ e
    have ex : x = V.ref a := k2
    refine ⟨x, k1, S, st, r.wf, r.str, by rw [ex], ?_⟩
    cases ef : finO (b c (some (.exn c) :: List.replicate n none) st) with
    | bad => rw [ef] at po; exact po.elim
    | ok r1 st1 => rw [ef] at po; exact po
    | exc c1 fs1 st1 => rw [ef] at po; exact po
  · exact po.elim
end
section
variable {Z : Stc} {X : Cx} {a : Addr} {oe : Obj}
theorem call_isP {Ds : List Nat} {n c : Nat} (hp : (a, oe) ∈ X.pn) (xt : XT X.K Z Ds n) (hc : c ∈ Ds) (hz : Zc (.ref (Z.cls c)) none oe) (hf : ∃ vs, oe.data = .fields vs) : CallR X (.builtin "isinstance") (rIsX X.K Z c n a) := by
  intro pins s σ H xs us Q I r h
  obtain ⟨ts, hts, hx, q⟩ := h
  have C := xt.ec c hc
  obtain ⟨hget, _⟩ := I.pin (a, oe) (List.mem_append.mpr (.inl hp))
  obtain ⟨vs, hv⟩ := hf
  have J : PySem.W.InstAt s.heap a oe (Z.cls c) none := by
    obtain ⟨oc, od, oda, osl⟩ := oe
    obtain ⟨h1, h2⟩ := hz
    dsimp only at h1 h2 hv
    subst h1 h2 hv
    exact ⟨hget, rfl, rfl, trivial⟩
  rcases hx with ⟨t, rfl, rfl⟩ | ⟨tp, rfl, hT⟩
  · obtain ⟨u1, u2, rfl, r1, r2⟩ := vals2 r
    cases (show u1 = Value.ref a from r1)
    have e2 := (clV_cls Z t).eq r2
    subst e2
    refine PySem.W.kia_one (PySem.W.handS_kitx_exc C.hg C.hk C.hs C.hd C.ha C.hn C.ht C.hm) I.kIn J (kit_isE xt hc fun t' e => hts t' (by rw [e]; exact List.mem_cons_self)) (fun z => nomatch z) fun tk => ⟨.bl _, H, I.kept (t' := tk) fun _ _ z => z, rfl, ?_⟩
    simpa using q
  · obtain ⟨u1, u2, rfl, r1, r2⟩ := vals2 r
    cases (show u1 = Value.ref a from r1)
    cases (show u2 = Value.ref tp from r2)
    obtain ⟨_, its, rv, o, h1, h2, n', h3⟩ := (show ObjOk X.prog X.w H s.heap tp (.tup (ts.map (clV Z))) from I.hok tp _ hT)
    have e3 := ClsV.all (clV_all Z ts) rv
    subst e3
    obtain ⟨oc, od, dt, sl⟩ := o
    simp only at h2 h3
    subst h2 h3
    exact PySem.W.kia_tup (PySem.W.handS_kitx_exc C.hg C.hk C.hs C.hd C.ha C.hn C.ht C.hm) I.kIn J h1 (kit_anyE xt hc hts) (fun z => nomatch z) fun tk => ⟨.bl _, H, I.kept (t' := tk) fun _ _ z => z, rfl, q⟩
theorem me_isP1 {Ds : List Nat} {n c i : Nat} {en : Str} {e2 : Expr} {t : Option Nat} {p pe pos : Pos} (hp : (a, oe) ∈ X.pn) (xt : XT X.K Z Ds n) (hc : c ∈ Ds) (hz : Zc (.ref (Z.cls c)) none oe) (hf : ∃ vs, oe.data = .fields vs) (hm : X.mg "isinstance" = none)
    (hv : PE X (.Name en pe) (tVar i)) (hcl : CL Z X [e2] [t]) (hg : Gl X "isinstance" := by rfl) (hs : starEach [.Name en pe, e2] X.env = (false, eval (.Name en pe) X.env) :: starEach [e2] X.env := by rfl)
    (hpl : (backTo pos (starEach [e2] X.env)).any (·.1) = false := by rfl) :
    ME (Z.at a) X W0 (.Call (.Name "isinstance" p) [.Name en pe, e2] [] pos) (dIsE n c i [t]) := by
  refine ⟨_, pe_callB (X := X) (call_isP (X := X) hp xt hc hz hf) hg hm (by decide +kernel) (pa_cons (X := X) hv hcl.pa hs) (he := hs) (hpl := hpl), fun S σ H env st Q r p => ?_⟩
  obtain ⟨⟨c', e⟩, h1, p2⟩ := dIsE_some p
  obtain ⟨x, k1, k2⟩ := r.sl i _ e
  refine ⟨x, k1, ?_⟩
  have ex : x = V.ref a := k2
  rw [ex]
  exact ⟨[t], h1, .inl ⟨t, rfl, rfl⟩, p2 _ S H (Ext.refl _ _) r.wf r.str (by simp only [rpE, RR, Rep])⟩
theorem me_isPT {Ds : List Nat} {n c i k1 : Nat} {en : Str} {es : List Expr} {ts : List (Option Nat)} {p pe pt pos : Pos} (hp : (a, oe) ∈ X.pn) (xt : XT X.K Z Ds n) (hc : c ∈ Ds) (hz : Zc (.ref (Z.cls c)) none oe) (hf : ∃ vs, oe.data = .fields vs) (hm : X.mg "isinstance" = none)
    (hv : PE X (.Name en pe) (tVar i)) (hcl : CL Z X es ts) (hl : ts.length ≤ 1000 := by decide) (hg : Gl X "isinstance" := by rfl) (hs : starEach [.Name en pe, .Tuple es k1 pt] X.env = (false, eval (.Name en pe) X.env) :: starEach [.Tuple es k1 pt] X.env := by rfl)
    (hs2 : starEach [.Tuple es k1 pt] X.env = (false, eval (.Tuple es k1 pt) X.env) :: starEach [] X.env := by rfl)
    (hpl : (backTo pos (starEach [.Tuple es k1 pt] X.env)).any (·.1) = false := by rfl) :
    ME (Z.at a) X W0 (.Call (.Name "isinstance" p) [.Name en pe, .Tuple es k1 pt] [] pos) (dIsE n c i ts) := by
  refine ⟨_, pe_callB (X := X) (call_isP (X := X) hp xt hc hz hf) hg hm (by decide +kernel) (pa_cons (X := X) hv (pa_cons (X := X) (pe_tup hcl.pa) pa_nil hs2) hs) (he := hs) (hpl := hpl), fun S σ H env st Q r p => ?_⟩
  obtain ⟨⟨c', e⟩, h1, p2⟩ := dIsE_some p
  obtain ⟨x, k1, k2⟩ := r.sl i _ e
  refine ⟨x, k1, ?_⟩
  have ex : x = V.ref a := k2
  rw [ex]
  refine ⟨small_line (by rw [List.length_map]; exact hl), fun tp hp => ?_⟩
  have x1 := ExtP.newF (o := .tup (ts.map (clV Z))) r.wf hp trivial
  exact ⟨ts, h1, .inr ⟨tp, rfl, upd_same⟩, p2 _ _ _ x1.ext x1.wf (r.str.extP x1) (by simp only [rpE, RR, Rep])⟩
end
end Eg

/-! Texts: their signs, sign in text, join; a dict of one pair. -/
namespace Eg
open PySem L2
section
variable {Z : Stc} {X : Cx} {W : WX}
def signsL (z : Str) : List Val := z.cps.toList.map fun c => Val.str ⟨#[c]⟩
@[simp] def gInS : Val → Val → Option R
  | .str s, .str z => match s.cps.toList with
    | [c] => some (.val (.bl (decide (c ∈ z.cps.toList))))
    | _ => none
  | _, _ => none
theorem os_inS : OpS Z X (compareOp .In) gInS := by
  intro pins s σ H x y v u Q I rx ry ⟨S, a, b, r, w, pa, pb, eg, q⟩
  unfold gInS at eg
  split at eg
  · rename_i s1 z1
    split at eg
    · rename_i c hc
      cases eg
      have ex : x = V.str s1 := by simpa only [PRep, Rep] using pa
      have ey : y = V.str z1 := by simpa only [PRep, Rep] using pb
      have es : s1 = ⟨#[c]⟩ := by
        obtain ⟨cps⟩ := s1
        have : cps = #[c] := by
          apply Array.toList_inj.mp
          rw [hc]
        rw [this]
      subst ex ey es
      refine op_in_sign pins s σ H _ _ v u Q I rx ry ⟨c, z1, rfl, rfl, ?_⟩
      exact q_val w q (by simp only [Rep])
    · cases eg
  · cases eg
/-- what a for over a text gives -/
@[simp] def dItemsT (d : DP) : DI := fun env st => (d env st).bind fun v st => match v with
  | .str z => .ok (signsL z) st | _ => .bad
theorem gives_str {K : PySem.W.Frag} {S : Gh} {H : Hp} {env σ} (z : Str) : Gives K Z S H env σ (Its z) (signsL z) := by
  intro i S2 H2 f m w2
  refine ⟨fun h => show z.cps.size ≤ i by simpa [signsL] using h, fun v hv => ?_⟩
  obtain ⟨c, hc, rfl⟩ : ∃ c, z.cps[i]? = some c ∧ v = .str ⟨#[c]⟩ := by
    simp only [signsL, List.getElem?_map] at hv
    cases e : z.cps.toList[i]? with
    | none => rw [e] at hv; cases hv
    | some c =>
      rw [e] at hv
      cases hv
      exact ⟨c, by simpa using e, rfl⟩
  refine ⟨(Array.getElem?_eq_some_iff.mp hc).1, fun x H3 hy => ?_⟩
  obtain ⟨rfl, c', hc', rfl⟩ := hy
  rw [hc] at hc'
  cases hc'
  exact ⟨S2, ExtP.refl w2, by simp only [Rep]⟩
theorem mi_txt {tg e : Expr} {d : DP} (h : MP Z X W e d) : MI Z X W tg e (dItemsT d) := by
  obtain ⟨t, h1, h2⟩ := h
  refine ⟨_, pi_str h1, fun S σ H env st R r p => ?_⟩
  refine h2 S σ H env st _ r ?_
  simp only [dItemsT] at p
  cases e : d env st with
  | bad => rw [e] at p; exact p.elim
  | exc c fs st1 => rw [e] at p; exact p
  | ok v st1 =>
    rw [e] at p
    simp only [Out.bind] at p
    intro x S1 H1 e1 w1 s1 q
    cases v with
    | str z =>
      have ex : x = V.str z := by simpa only [PRep, Rep] using q.p
      exact ⟨z, ex, p _ S1 H1 e1 w1 s1 (gives_str z)⟩
    | _ => exact p.elim
/-! join -/
def strsOf : List Val → Option (List Str)
  | [] => some []
  | .str b :: r => (strsOf r).map (b :: ·)
  | _ => none
theorem strsOf_map : ∀ bs : List Str, strsOf (bs.map Val.str) = some bs
  | [] => rfl
  | b :: bs => by
    show (strsOf (bs.map Val.str)).map (b :: ·) = _
    rw [strsOf_map bs]
    rfl
theorem strs_rep {K : PySem.W.Frag} {S : Gh} : ∀ {vs : List Val} {xs : List V} {bs}, RepL K Z S vs xs → strsOf vs = some bs → xs = bs.map V.str
  | [], xs, ns, h, e => by
    simp only [RepL] at h
    cases e
    exact h
  | v :: vs, xs, ns, h, e => by
    obtain ⟨x, r, rfl, h1, t⟩ := repL_uncons h
    cases v with
    | str b =>
      have e' : (strsOf vs).map (b :: ·) = some ns := e
      cases q : strsOf vs with
      | none => rw [q] at e'; cases e'
      | some ms =>
        rw [q] at e'
        cases e'
        rw [show x = V.str b by simpa only [Rep] using h1, strs_rep t q]
        rfl
    | _ => cases e
def gJoin : Val → List Val → Option R
  | .str a, [v] => match lstOf v with
    | some vs => match strsOf vs with
      | some ys => if (ys.map (·.length)).sum + ys.length * a.length ≤ 16777216 then some (.val (.str (Txt.join a ys))) else none
      | none => none
    | none => none
  | _, _ => none
theorem me_join {o e : Expr} {apos cpos : Pos} {d d1 : DP} (ho : MP Z X W o d) (ha : MPs Z X W [e] (dVals [d1]))
    (hbase : attributeBase o "join" X.env (eval o X.env) = eval o X.env := by rfl)
    (hfew : ((backTo cpos (starEach [e] X.env)).all (fun x => !x.1) && (backToKw cpos (keywordEach [] X.env)).all (fun x => x.1.isSome)
      && decide ([e].length + ([] : List Keyword).length + (if ([] : List Keyword).isEmpty then 0 else 1) < 30)) = true := by rfl)
    (hline : (apos.endLine == cpos.line) = true := by rfl) (hs : starEach [e] X.env = (false, eval e X.env) :: starEach [] X.env := by rfl) (hplain : (backTo cpos (starEach [] X.env)).any (·.1) = false := by rfl) :
    ME Z X W (.Call (.Attribute o "join" apos) [e] [] cpos) (dBMe "str" gJoin d [d1]) :=
  me_bm PySem.F.plainAttrs_str PySem.F.slot_str_join PySem.F.type_str_join mt_join (fun x xs H Q h => by
    obtain ⟨S, v, vs, r, w, pv, pvs, eg, q⟩ := h
    unfold gJoin at eg
    split at eg
    · rename_i a u
      split at eg
      · rename_i ws e1
        split at eg
        · rename_i ys e2
          split at eg
          · rename_i hb
            cases eg
            obtain ⟨y, rfl, p1⟩ := prep1 pvs
            obtain ⟨l, zs, rfl, hs, r1⟩ := lst_rep w p1 e1
            have ey := strs_rep r1 e2
            subst ey
            exact ⟨a, l, ys, by simpa only [PRep, Rep] using pv, rfl, .inl hs, hb, q_val w q (by simp only [Rep])⟩
          · cases eg
        · cases eg
      · cases eg
    · cases eg) ho ha hbase hfew hline hs hplain
/-! {"a": 1} -/
@[simp] def dDic1 (k : Str) (i : Int) : DE := fun env st => .ok (.ownd [.inr k] [.int i]) st
theorem me_dic1 {k : Str} {i : Int} {j1 j2 : Nat} {p1 p2 pos : Pos} : ME Z X W (.Dict [some (.Constant (.str k) j1 p1)] [.Constant (.int i) j2 p2] pos) (dDic1 k i) := by
  refine ⟨_, pe_disp (pps_cons pe_str pe_int pps_nil) rfl rfl (by simp) (by simp), fun S σ H env st Q r p => ?_⟩
  intro a ha
  refine ⟨upd_same, [(.inr k, .int i)], rfl, by simp, ?_⟩
  have e : upd (upd H a (.dK [])) a (.dK (mergeK [] [(.inr k, .int i)])) = upd H a (.dK [(.inr k, V.int i)]) := by
    funext b
    by_cases h : b = a
    · subst h; rw [upd_same, upd_same]; rfl
    · simp [upd, h]
  rw [e]
  have E := ExtP.new r.wf ha (o := .dK [(.inr k, V.int i)])
  refine p _ S _ E.ext E.wf (r.str.extP E) ?_
  exact ⟨a, [(.inr k, V.int i)], rfl, upd_same, ng_none r.wf ha, ha, rfl, by simp only [List.map_cons, List.map_nil, RepL, Rep]; exact ⟨_, _, rfl, rfl, rfl⟩⟩
end
end Eg

/-! An own list that is only looked at through a test. -/
namespace Eg
open PySem L2
section
variable {Z : Stc} {X : Cx} {W : WX}
@[simp] def lkE (i : Nat) (env : Evn) : Evn := match env[i]? with
  | some (some (.own vs)) => env.set i (some (.brw vs))
  | _ => env
theorem sr_lk {K : PySem.W.Frag} {S : Gh} {H : Hp} {σ : St} {env : Evn} {st : Store} (i : Nat) (r : SR K Z S σ H env st) : SR K Z S σ H (lkE i env) st := by
  unfold lkE
  split
  · rename_i vs e
    have hi : i < env.length := (List.getElem?_eq_some_iff.mp e).1
    obtain ⟨x, h1, h2⟩ := r.sl i _ e
    obtain ⟨l, xs, rfl, hl, g, rl⟩ := h2
    refine ⟨r.wf, r.str, by rw [List.length_set]; exact r.len, fun j t h => ?_, fun j k sj sk a njk k1 o1 k2 a2 q1 q2 => ?_⟩
    · rcases set_some h with ⟨rfl, rfl⟩ | ⟨nj, h⟩
      · exact ⟨_, h1, l, xs, rfl, ⟨hl, g.m⟩, rl⟩
      · exact r.sl j t h
    · rcases set_some k1 with ⟨_, e1⟩ | ⟨nj, k1⟩
      · rw [e1] at o1; cases o1
      · rcases set_some k2 with ⟨ek, e2⟩ | ⟨nk, k2⟩
        · rw [ek] at q2 njk
          exact r.sep j i sj _ a njk k1 o1 e rfl q1 q2
        · exact r.sep j k sj sk a njk k1 o1 k2 a2 q1 q2
  · exact r
@[simp] def dLkT (i : Nat) (d : DT) : DT := fun env st => d (lkE i env) st
theorem mt_lk {e : Expr} {d : DT} (i : Nat) (h : MT Z X W e d) : MT Z X W e (dLkT i d) := by
  obtain ⟨t, h1, h2⟩ := h
  exact ⟨t, h1, fun S σ H env st Q r p => h2 S σ H (lkE i env) st Q (sr_lk i r) p⟩
end
end Eg

/-! list(range(a, b, c)). -/
namespace Eg
open PySem L2 PyProof.Rows
def rg3V (i c : Int) (n : Nat) : List V := (List.range n).map fun k : Nat => V.int (i + (k : Nat) * c)
theorem vals_rg3 {i c : Int} {n : Nat} {acc : Array Value} (h : ItemsOf (fun k v => ∃ t, v = .int (i + k * c) t) acc n) : Vals (rg3V i c n) acc.toList := by
  have e : acc.toList.length = n := by rw [Array.length_toList]; exact h.1
  unfold rg3V
  rw [← e]
  refine vals_of_get acc.toList _ fun j u hj => ?_
  obtain ⟨t, rfl⟩ := h.2 j u (by rw [← hj, Array.getElem?_toList])
  exact ⟨t, rfl⟩
section
variable {Z : Stc} {X : Cx} {W : WX} {a b c : Expr} {ta : TA}
def tLR3 (ta : TA) : TE := fun σ H Q => ta σ H fun vs H1 => ∃ (i j c : Int) (n : Nat), vs = [.int i, .int j, .int c] ∧ RgC i j c n ∧ n ≤ 2 ^ 24 ∧ ∀ q, H1 q = none → Q (.ref q) (upd H1 q (.lst (rg3V i c n)))
theorem pe_listR3 {p p2 pos pos2 : Pos} (hc : X.calm = true) (hgl : Gl X "list") (hml : X.mg "list" = none) (hg : Gl X "range") (hm : X.mg "range" = none) (ha : PA X [a, b, c] ta)
    (na : starEach [.Call (.Name "range" p2) [a, b, c] [] pos2] X.env = (false, eval (.Call (.Name "range" p2) [a, b, c] [] pos2) X.env) :: starEach [] X.env := by rfl)
    (hs : starEach [a, b, c] X.env = (false, eval a X.env) :: starEach [b, c] X.env := by rfl) (hpl : (backTo pos2 (starEach [b, c] X.env)).any (·.1) = false := by rfl) :
    PE X (.Call (.Name "list" p) [.Call (.Name "range" p2) [a, b, c] [] pos2] [] pos) (tLR3 ta) := by
  refine ⟨fun pins s σ H Q I h => ?_⟩
  refine Call_ (ld_blt I hgl hml boot_list (PyProof.Rows.callWith_type1 (args_cons (thn (Q := fun x s1 => ∃ r i j c t u v H1 n, x = .ref r ∧ IsRange s1.heap r i j c t u v ∧ Inv X pins σ H1 s1 ∧ RgC i j c n ∧ n ≤ 2 ^ 24 ∧ ∀ q, H1 q = none → Q (.ref q) (upd H1 q (.lst (rg3V i c n)))) ?_ fun x s1 ⟨r, i, j, k, t, u, v, H1, n, ex, hr, I1, ok, n24, q⟩ => args_nil ?_) na) na))
  · refine Call_ (ld_blt I hg hm boot_range (PyProof.Rows.callWith_type1 (thn (ha.run pos2 pins s σ H _ I h) fun us s1 ⟨vs, H1, I1, r1, q1⟩ => ?_) hs hpl))
    obtain ⟨i, j, k, n, e, ok, n24, q⟩ := q1
    subst e
    cases r1 with
    | cons r rr =>
      cases rr with
      | cons r' rr =>
        cases rr with
        | cons r'' rr =>
          cases rr
          obtain ⟨t, rfl⟩ := r
          obtain ⟨t', rfl⟩ := r'
          obtain ⟨t'', rfl⟩ := r''
          exact call_range_3 ok.1 ⟨_, i, j, k, _, _, _, H1, n, rfl, IsRange.new .., I1.kept (t' := s1.toks) fun b o e => Heap.get?_push_of_some _ e, ok, n24, q⟩ (.inl (PyProof.noPylong_small ok.2.1))
  · subst ex
    obtain ⟨c0, c1, c2, c3⟩ := ok
    refine call_list_range (n := n) (I1.ok.hd hc) hr c2 c3 n24 fun h' tk acc c' hk e' hi => ?_
    refine ⟨.ref s1.heap.objs.size, upd H1 s1.heap.objs.size (.lst (rg3V i k n)), I1.laid hk (Nat.le_refl _) (show ObjOk X.prog X.w _ _ _ (.lst (rg3V i k n)) from ⟨?_, acc.toList, c', vals_rg3 hi, ?_⟩), rfl, q _ (I1.hok.fresh (Nat.le_refl _))⟩
    · unfold rg3V
      rw [List.length_map, List.length_range, sizeLine_eq]; omega
    · rw [Array.toArray_toList]; exact e'
noncomputable def gLR3 : List Val → Option R
  | [.int i, .int j, .int c] => if rgOk3 i j c = true ∧ (Builtin.Range.rangeSize i j c).toNat ≤ 16777216 then some (.own ((List.range (Builtin.Range.rangeSize i j c).toNat).map fun k : Nat => Val.int (i + (k : Nat) * c))) else none
  | _ => none
theorem repL_intF {K : PySem.W.Frag} {S : Gh} (f : Nat → Int) : ∀ l : List Nat, RepL K Z S (l.map fun k => Val.int (f k)) (l.map fun k => V.int (f k))
  | [] => by simp only [List.map_nil, RepL]
  | k :: l => by
    simp only [List.map_cons, RepL, Rep]
    exact ⟨_, _, rfl, rfl, repL_intF f l⟩
theorem me_listR3 {da db dc : DP} {p p2 pos pos2 : Pos} (hc : X.calm = true) (hml : X.mg "list" = none) (hm : X.mg "range" = none) (h : MPs Z X W [a, b, c] (dVals [da, db, dc])) (hgl : Gl X "list" := by rfl) (hg : Gl X "range" := by rfl)
    (na : starEach [.Call (.Name "range" p2) [a, b, c] [] pos2] X.env = (false, eval (.Call (.Name "range" p2) [a, b, c] [] pos2) X.env) :: starEach [] X.env := by rfl)
    (hs : starEach [a, b, c] X.env = (false, eval a X.env) :: starEach [b, c] X.env := by rfl) (hpl : (backTo pos2 (starEach [b, c] X.env)).any (·.1) = false := by rfl) :
    ME Z X W (.Call (.Name "list" p) [.Call (.Name "range" p2) [a, b, c] [] pos2] [] pos) (dCB gLR3 [da, db, dc]) := by
  obtain ⟨t, h1, h2⟩ := h
  refine ⟨_, pe_listR3 hc hgl hml hg hm h1 na hs hpl, fun S σ H env st Q r po => h2 S σ H env st _ r ?_⟩
  simp only [dCB] at po
  cases ed : dVals [da, db, dc] env st with
  | bad => simp only [ed, Out.bind, Post] at po
  | exc c fs st1 =>
    simp only [ed, Out.bind, Post] at po ⊢
    exact po
  | ok vs st1 =>
    simp only [ed, Out.bind] at po
    intro xs S1 H1 e1 w1 s1 q
    have hl := dVals_length ed
    match vs, hl with
    | [v, u, t], _ =>
      obtain ⟨x, y, z, rfl, pv, pu, pt⟩ := prep3 q.p
      cases v with
      | int i =>
        cases u with
        | int j =>
          cases t with
          | int c =>
            simp only [gLR3] at po
            split at po
            · rename_i hj
              have hj' := of_cB hj.1
              have hn := hj.2
              refine ⟨i, j, c, (Builtin.Range.rangeSize i j c).toNat, by rw [show x = V.int i by simpa only [PRep, Rep] using pv, show y = V.int j by simpa only [PRep, Rep] using pu, show z = V.int c by simpa only [PRep, Rep] using pt], ⟨hj'.1, hj'.2.1, hj'.2.2.1, ?_⟩, by omega, fun pp hp => ?_⟩
              · have := hj'.2.2.2
                omega
              · have E := ExtP.new w1 hp (o := .lst (rg3V i c (Builtin.Range.rangeSize i j c).toNat))
                refine po _ S1 _ (e1.trans E.ext) E.wf (s1.extP E) ?_
                exact ⟨pp, _, rfl, upd_same, ng_none w1 hp, none_of_live e1.live hp, repL_intF (fun k => i + (k : Nat) * c) _⟩
            · exact False.elim po
          | _ => exact False.elim po
        | _ => exact False.elim po
      | _ => exact False.elim po
end
end Eg

/-! Things that can be called, as values. The cells of a running frame are free of the abstract heap; for the time of a call they are told there (sealed). -/
namespace Eg
open PySem L2
/-- the very object o stands at a -/
def XO (a : Addr) (o : Obj) : HO := .frz o (.ext fun h => h.get? a = some o)
abbrev Cl0 := List (Addr × Obj)
def sealH (C : Cl0) (H : Hp) : Hp := fun a => match C.lookup a with
  | some o => some (XO a o)
  | none => H a
def openH (C : Cl0) (H : Hp) : Hp := fun a => match C.lookup a with
  | some _ => none
  | none => H a
section
variable {C : Cl0} {H H' H2 : Hp} {a : Addr} {o : Obj} {u : HO}
theorem seal_in (h : C.lookup a = some o) : sealH C H a = some (XO a o) := by unfold sealH; rw [h]
theorem seal_out (h : C.lookup a = none) : sealH C H a = H a := by unfold sealH; rw [h]
theorem open_in (h : C.lookup a = some o) : openH C H a = none := by unfold openH; rw [h]
theorem open_out (h : C.lookup a = none) : openH C H a = H a := by unfold openH; rw [h]
/-- sealed: each of C is told -/
def Told (C : Cl0) (H : Hp) : Prop := ∀ a o, C.lookup a = some o → H a = some (XO a o)
/-- free: none of C is told -/
def Free (C : Cl0) (H : Hp) : Prop := ∀ a o, C.lookup a = some o → H a = none
theorem told_seal : Told C (sealH C H) := fun _ _ h => seal_in h
theorem free_open : Free C (openH C H) := fun _ _ h => open_in h
theorem XO_mb : ¬ Mb (XO a o) := fun z => z
theorem XO_ins {C' dx : Addr} {fs : List (Str × V)} : XO a o ≠ .ins C' dx fs := fun z => by unfold XO at z; cases z
theorem XO_frz : ¬ Frz (XO a o) := fun z => z
theorem same_seal (f : Free C H) : Same H (sealH C H) := fun b v e => by
  cases q : C.lookup b with
  | none => rw [seal_out q]; exact e
  | some o => rw [f _ _ q] at e; cases e
theorem seal_some (h : sealH C H a = some u) : (∃ o, C.lookup a = some o ∧ u = XO a o) ∨ (C.lookup a = none ∧ H a = some u) := by
  cases q : C.lookup a with
  | none => rw [seal_out q] at h; exact .inr ⟨rfl, h⟩
  | some o => rw [seal_in q] at h; exact .inl ⟨o, rfl, (Option.some.inj h).symm⟩
theorem seal_none (h : sealH C H a = none) : C.lookup a = none ∧ H a = none := by
  cases q : C.lookup a with
  | none => rw [seal_out q] at h; exact ⟨rfl, h⟩
  | some o => rw [seal_in q] at h; cases h
theorem open_some (h : openH C H a = some u) : C.lookup a = none ∧ H a = some u := by
  cases q : C.lookup a with
  | none => rw [open_out q] at h; exact ⟨rfl, h⟩
  | some o => rw [open_in q] at h; cases h
theorem open_to (h : H a = some u) (n : ∀ o, u ≠ XO a o) (t : Told C H) : openH C H a = some u := by
  cases q : C.lookup a with
  | none => rw [open_out q]; exact h
  | some o => rw [t _ _ q] at h; exact absurd (Option.some.inj h).symm (n o)
theorem told_none (t : Told C H) (h : H a = none) : C.lookup a = none := by
  cases q : C.lookup a with
  | none => rfl
  | some o => rw [t _ _ q] at h; cases h
theorem free_some (t : Free C H) (h : H a = some u) : C.lookup a = none := by
  cases q : C.lookup a with
  | none => rfl
  | some o => rw [t _ _ q] at h; cases h
end
/-! ### the objects -/
section
variable {P : Program} {w : World} {C : Cl0} {H H' H2 : Hp} {h h' : Heap}
theorem xo_ok {a : Addr} {o : Obj} (e : h.get? a = some o) : ObjOk P w H h a (XO a o) :=
  ⟨e, e, ⟨o, e⟩, fun h1 h2 p k => k _ p⟩
theorem xo_at {a : Addr} {o : Obj} (hok : HOk P w H h) (e : H a = some (XO a o)) : h.get? a = some o := (hok a _ e).1
theorem hok_seal (hok : HOk P w H h) (f : Free C H) (k : ∀ a o, C.lookup a = some o → h.get? a = some o) : HOk P w (sealH C H) h := fun a u e => by
  rcases seal_some e with ⟨o, q, rfl⟩ | ⟨q, e⟩
  · exact xo_ok (k _ _ q)
  · exact (hok a u e).stay (fun _ _ _ z => z) (fun b z => same_seal f _ _ z) fun b xs z => same_seal f _ _ z
theorem hok_open (hok : HOk P w H h) (t : Told C H) : HOk P w (openH C H) h := fun a u e => by
  obtain ⟨q, e⟩ := open_some e
  exact (hok a u e).stay (fun _ _ _ z => z) (fun b z => open_to z (fun o y => by unfold XO at y; cases y) t) fun b xs z => open_to z (fun o y => by unfold XO at y; cases y) t
end
/-! ### the engine's relations, told and free -/
section
variable {K : PySem.W.Frag} {Z : Stc} {C : Cl0} {S S' : Gh} {H H0 H2 : Hp} {st : Store}
theorem wf_open (w : Wf S H) (t : Told C H) : Wf S (openH C H) :=
  ⟨fun a u e => open_to (w.same _ _ e) (fun o z => by have q := w.frz _ _ e; rw [z] at q; exact XO_frz q) t, w.frz, fun a m => by
    obtain ⟨u, e, k⟩ := w.ins a m
    exact ⟨u, open_to e (fun o z => XO_mb (z ▸ k)) t, k⟩, w.ng⟩
theorem wf_seal (w : Wf S H) (f : Free C H) : Wf S (sealH C H) :=
  ⟨fun a u e => same_seal f _ _ (w.same _ _ e), w.frz, fun a m => by
    obtain ⟨u, e, k⟩ := w.ins a m
    exact ⟨u, same_seal f _ _ e, k⟩, w.ng⟩
theorem str_seal (s : StR K Z S H st) (f : Free C H) : StR K Z S (sealH C H) st :=
  ⟨tabs_sy s.tab fun b o e _ => same_seal f _ _ e, s.len, s.nd, s.dl, fun i o e =>
    (s.ob i o e).to (fun _ q => q) Iff.rfl (fun a u _ _ q => same_seal f _ _ q) (fun b u q _ => same_seal f _ _ q) fun _ _ q => q⟩
theorem tabs_open {T : List NdefX.NTab} (s : NdefX.TabsN T H) (t : Told C H) : NdefX.TabsN T (openH C H) := fun p hp => by
  obtain ⟨ps, h1, h2, h3⟩ := s p hp
  refine ⟨ps, open_to h1 (fun o y => by unfold XO at y; cases y) t, h2, fun pos cv hc => ?_⟩
  obtain ⟨c, e1, e2⟩ := h3 pos cv hc
  exact ⟨c, e1, open_to e2 (fun o y => by unfold XO LamX.CodeO at y; cases y) t⟩
theorem obr_open {i : Nat} {o : Ob} (r : ObR K Z S H i o) (t : Told C H) : ObR K Z S (openH C H) i o := by
  rcases r with ⟨a, dx, fs, hc, ha, hd', hh, hf⟩ | ⟨vs, e, a, xs, ha, hd', hh, hf⟩ | ⟨ks, vs, e, a, kxs, ha, hd', hh, hk, hf⟩ | ⟨e, a, ha, hd'⟩
  · exact .ins a dx fs hc ha hd' (open_to hh (fun o y => by unfold XO at y; cases y) t) hf
  · exact .lst vs e a xs ha hd' (open_to hh (fun o y => by unfold XO at y; cases y) t) hf
  · exact .dic ks vs e a kxs ha hd' (open_to hh (fun o y => by unfold XO at y; cases y) t) hk hf
  · exact .no e a ha hd'
theorem str_open (s : StR K Z S H st) (t : Told C H) : StR K Z S (openH C H) st :=
  ⟨tabs_open s.tab t, s.len, s.nd, s.dl, fun i o e => obr_open (s.ob i o e) t⟩
/-- behind code that ran while C was free: the world with C told -/
theorem ext_seal (t : Told C H) (f : Free C H2) (w' : Wf S' H2) (e : Ext S (openH C H) S' H2) : Ext S H S' (sealH C H2) where
  pre := e.pre
  sg := e.sg
  fresh := fun a h => by
    rcases e.fresh a h with z | z
    · exact .inl z
    · cases q : C.lookup a with
      | none => rw [open_out q] at z; exact .inr z
      | some o =>
        cases g : S'.G a with
        | none => exact absurd g h
        | some u => have y := w'.same _ _ g; rw [f _ _ q] at y; cases y
  frame := fun a o h n => by
    cases q : C.lookup a with
    | none => rw [seal_out q]; exact e.frame a o (by rw [open_out q]; exact h) n
    | some o' => rw [t _ _ q] at h; rw [seal_in q]; exact h
  live := fun a h => by
    cases q : C.lookup a with
    | none => rw [seal_out q]; exact e.live a (by rw [open_out q]; exact h)
    | some o' => rw [seal_in q]; simp
  rfresh := fun a h => by
    rcases e.rfresh a h with z | z
    · exact .inl z
    · cases q : C.lookup a with
      | none => rw [open_out q] at z; exact .inr z
      | some o =>
        obtain ⟨u, y, k⟩ := w'.ins a h
        rw [f _ _ q] at y; cases y
/-- behind code that ran while C was told: C is told still, and the world with C free -/
theorem told_ext (w : Wf S H) (t : Told C H) (e : Ext S H S' H2) : Told C H2 := fun a o q =>
  e.frame a _ (t a o q) (not_rho w (t a o q) XO_mb fun ps z => by unfold XO at z; cases z)
theorem ext_open (f : Free C H) (t : Told C H2) (e : Ext S (sealH C H) S' H2) : Ext S H S' (openH C H2) where
  pre := e.pre
  sg := e.sg
  fresh := fun a h => (e.fresh a h).imp id fun z => (seal_none z).2
  frame := fun a o h n => by
    have q := free_some f h
    rw [open_out q]
    exact e.frame a o (by rw [seal_out q]; exact h) n
  live := fun a h => by
    cases g : H a with
    | none => exact absurd g h
    | some u =>
      have q := free_some f g
      rw [open_out q]
      exact e.live a (by rw [seal_out q, g]; simp)
  rfresh := fun a h => (e.rfresh a h).imp id fun z => (seal_none z).2
/-! ### what follows, told and free -/
theorem post_open {α β : Type} {RP RP' : Gh → Hp → α → β → Prop} {Q : β → Hp → Prop} {W : Value → Option Addr → Hp → Prop} {o : Out α} (t : Told C H)
    (hR : ∀ S' H2 a y, Free C H2 → Wf S' H2 → RP' S' H2 a y → RP S' (sealH C H2) a y) (p : Post K Z S H RP Q W o) :
    Post K Z S (openH C H) RP' (fun y H2 => Free C H2 → Q y (sealH C H2)) (fun c d H2 => Free C H2 → W c d (sealH C H2)) o := by
  cases o with
  | bad => exact p
  | ok a st1 => exact fun y S' H2 e w s q f => p y S' _ (ext_seal t f w e) (wf_seal w f) (str_seal s f) (hR S' H2 a y f w q)
  | exc c fs st1 => 
    refine fun cls d S' H2 e w s q f => p cls d S' _ (ext_seal t f w e) (wf_seal w f) (str_seal s f) ⟨q.1, ?_⟩
    rcases q.2 with z | ⟨dd, xs, z1, z2, z3, z4⟩
    · exact .inl z
    · exact .inr ⟨dd, xs, z1, z2, same_seal f _ _ z3, z4⟩
theorem post_seal {α β : Type} {RP RP' : Gh → Hp → α → β → Prop} {Q : β → Hp → Prop} {W : Value → Option Addr → Hp → Prop} {o : Out α} (w0 : Wf S (sealH C H)) (f : Free C H)
    (hR : ∀ S' H2 a y, Told C H2 → Wf S' H2 → RP' S' H2 a y → RP S' (openH C H2) a y) (p : Post K Z S H RP Q W o) :
    Post K Z S (sealH C H) RP' (fun y H2 => Q y (openH C H2)) (fun c d H2 => W c d (openH C H2)) o := by
  cases o with
  | bad => exact p
  | ok a st1 =>
    intro y S' H2 e w s q
    have t := told_ext w0 told_seal e
    exact p y S' _ (ext_open f t e) (wf_open w t) (str_open s t) (hR S' H2 a y t w q)
  | exc c fs st1 =>
    intro cls d S' H2 e w s q
    have t := told_ext w0 told_seal e
    refine p cls d S' _ (ext_open f t e) (wf_open w t) (str_open s t) ⟨q.1, ?_⟩
    rcases q.2 with z | ⟨dd, xs, z1, z2, z3, z4⟩
    · exact .inl z
    · exact .inr ⟨dd, xs, z1, z2, open_to z3 (fun o y => by unfold XO at y; cases y) t, z4⟩
theorem rr_seal {r : R} {x : V} (t : Told C H) (f : Free C H2) (h : RR K Z S (openH C H) H2 r x) : RR K Z S H (sealH C H2) r x := by
  cases r with
  | val v => exact h
  | own vs =>
    obtain ⟨l, xs, e1, e2, e3, e4, e5⟩ := h
    have q := free_some f e2
    exact ⟨l, xs, e1, same_seal f _ _ e2, e3, by rw [open_out q] at e4; exact e4, e5⟩
  | ownd ks vs =>
    obtain ⟨l, xs, e1, e2, e3, e4, e5⟩ := h
    have q := free_some f e2
    exact ⟨l, xs, e1, same_seal f _ _ e2, e3, by rw [open_out q] at e4; exact e4, e5⟩
theorem rr_open {r : R} {x : V} (f : Free C H) (t : Told C H2) (h : RR K Z S (sealH C H) H2 r x) : RR K Z S H (openH C H2) r x := by
  cases r with
  | val v => exact h
  | own vs =>
    obtain ⟨l, xs, e1, e2, e3, e4, e5⟩ := h
    exact ⟨l, xs, e1, open_to e2 (fun o y => by unfold XO at y; cases y) t, e3, (seal_none e4).2, e5⟩
  | ownd ks vs =>
    obtain ⟨l, xs, e1, e2, e3, e4, e5⟩ := h
    exact ⟨l, xs, e1, open_to e2 (fun o y => by unfold XO at y; cases y) t, e3, (seal_none e4).2, e5⟩
theorem ar_seal {a : Arg} {x : V} (f : Free C H) (h : ArR K Z S H a x) : ArR K Z S (sealH C H) a x := by
  cases a with
  | val v => exact h
  | fnv g => exact fnv_sy h fun b o e _ => same_seal f _ _ e
  | brw vs =>
    obtain ⟨l, xs, e1, e2, e3⟩ := h
    exact ⟨l, xs, e1, ⟨same_seal f _ _ e2.h, e2.m⟩, e3⟩
  | brwd ks vs =>
    obtain ⟨l, xs, e1, e2, e3⟩ := h
    exact ⟨l, xs, e1, ⟨e2.h.imp (fun q => same_seal f _ _ q) fun ⟨o, q⟩ => ⟨o, same_seal f _ _ q⟩, e2.m⟩, e3⟩
theorem ars_seal (f : Free C H) : ∀ {as : List Arg} {xs : List V}, ArsR K Z S H as xs → ArsR K Z S (sealH C H) as xs
  | [], xs, h => by simpa only [ArsR] using h
  | a :: as, xs, h => by
    simp only [ArsR] at h ⊢
    obtain ⟨x, r, rfl, h1, h2⟩ := h
    exact ⟨x, r, rfl, ar_seal f h1, ars_seal f h2⟩
theorem ars_snoc : ∀ {as : List Arg} {xs : List V} {a : Arg} {x : V}, ArsR K Z S H as xs → ArR K Z S H a x → ArsR K Z S H (as ++ [a]) (xs ++ [x])
  | [], xs, a, x, h, h' => by
    have e : xs = [] := by simpa only [ArsR] using h
    subst e
    simp only [List.nil_append, ArsR]
    exact ⟨x, [], rfl, h', rfl⟩
  | b :: as, xs, a, x, h, h' => by
    simp only [List.cons_append, ArsR] at h ⊢
    obtain ⟨y, r, rfl, h1, h2⟩ := h
    exact ⟨y, r ++ [x], rfl, h1, ars_snoc h2 h'⟩
end
/-! ### the ends of calls, told and free -/
section
variable {P : Program} {w : World} {K : PySem.W.Frag} {mg : Str → Option Value} {base : Heap} {A : Around} {outer : List Env} {s s' : Shared} {C : Cl0} {H : Hp} {Q : VK} {u : Value}
theorem env0_open (e : Env0 P w K mg base A outer s H) (t : Told C H) : Env0 P w K mg base A outer s (openH C H) :=
  ⟨e.frames, e.mod, fun b o q => ⟨(e.bs b o q).1, by rw [open_out (told_none t (e.bs b o q).2)]; exact (e.bs b o q).2⟩, e.bsz, e.funs, fun b m => by rw [open_out (told_none t (e.frf b m))]; exact e.frf b m, hok_open e.hok t, e.bare⟩
theorem env0_seal (e : Env0 P w K mg base A outer s H) (f : Free C H) (k : ∀ a o, C.lookup a = some o → s.heap.get? a = some o) (nb : ∀ a o, C.lookup a = some o → base.get? a = none ∧ a ∉ frs outer) : Env0 P w K mg base A outer s (sealH C H) := by
  have nB : ∀ b o, base.get? b = some o → C.lookup b = none := fun b o q => by
    cases z : C.lookup b with
    | none => rfl
    | some o' => rw [(nb _ _ z).1] at q; cases q
  have nF : ∀ b ∈ frs outer, C.lookup b = none := fun b m => by
    cases z : C.lookup b with
    | none => rfl
    | some o' => exact absurd m (nb _ _ z).2
  exact ⟨e.frames, e.mod, fun b o q => ⟨(e.bs b o q).1, by rw [seal_out (nB b o q)]; exact (e.bs b o q).2⟩, e.bsz, e.funs, fun b m => by rw [seal_out (nF b m)]; exact e.frf b m, hok_seal e.hok f k, e.bare⟩
theorem ce_seal (e0 : Env0 P w K mg base A outer s H) (t : Told C H) (h : CE outer P w (openH C H) s (fun v H2 => Free C H2 → Q v (sealH C H2)) u s') : CE outer P w H s Q u s' := by
  obtain ⟨v, H2, os, bare, un, hok, r, q⟩ := h
  have kC : ∀ a o, C.lookup a = some o → s.heap.get? a = some o := fun a o z => xo_at e0.hok (t a o z)
  have nf : ∀ a o, C.lookup a = some o → a ∉ frs outer := fun a o z m => by have y := e0.frf a m; rw [t a o z] at y; cases y
  have f : Free C H2 := fun a o z => un.free a o (kC a o z) (open_in z) (by simp)
  have kC' : ∀ a o, C.lookup a = some o → s'.heap.get? a = some o := fun a o z => un.keep a o (kC a o z) (open_in z) (nf a o z) (by simp)
  have op : ∀ {b : Addr}, H b = none → openH C H b = none := fun {b} n => by rw [open_out (told_none t n)]; exact n
  have opS : ∀ {b : Addr} {v : HO}, H b = some v → (∀ o, v ≠ XO b o) → C.lookup b = none := fun {b v} e n => by
    cases z : C.lookup b with
    | none => rfl
    | some o => rw [t _ _ z] at e; exact absurd (Option.some.inj e).symm (n o)
  refine ⟨v, sealH C H2, os, bare, ⟨fun b o h n m x => un.keep b o h (op n) m x, fun b o h n m x => un.slot b o h (op n) m x, fun b o h n x => ?_, fun b o h x => un.there b o h x, fun b xs h => ?_, fun b o v h => ?_, fun b ps h => ?_⟩, hok_seal hok f kC', r, q f⟩
  · rw [seal_out (told_none t n)]
    exact un.free b o h (op n) x
  · have z := opS h fun o y => by unfold XO at y; cases y
    rw [seal_out z]
    exact un.tups b xs (by rw [open_out z]; exact h)
  · cases z : C.lookup b with
    | some o' => rw [seal_in z, ← t _ _ z]; exact h
    | none => rw [seal_out z]; exact un.frzs b o v (by rw [open_out z]; exact h)
  · have z := opS h fun o y => by unfold XO at y; cases y
    obtain ⟨more, q⟩ := un.tbls b ps (by rw [open_out z]; exact h)
    exact ⟨more, by rw [seal_out z]; exact q⟩
theorem ce_open (f : Free C H) (nf : ∀ a o, C.lookup a = some o → a ∉ frs outer) (k : ∀ a o, C.lookup a = some o → s.heap.get? a = some o) (h : CE outer P w (sealH C H) s (fun v H2 => Q v (openH C H2)) u s') : CE outer P w H s Q u s' := by
  obtain ⟨v, H2, os, bare, un, hok, r, q⟩ := h
  have t : Told C H2 := fun a o z => un.frzs a o _ (seal_in z)
  have ns : ∀ {b : Addr} {v : HO}, H b = some v → C.lookup b = none := fun {b v} e => free_some f e
  refine ⟨v, openH C H2, os, bare, ⟨fun b o h n m x => ?_, fun b o h n m x => ?_, fun b o h n x => ?_, fun b o h x => un.there b o h x, fun b xs h => ?_, fun b o v h => ?_, fun b ps h => ?_⟩, hok_open hok t, r, q⟩
  · cases z : C.lookup b with
    | none => exact un.keep b o h (by rw [seal_out z]; exact n) m x
    | some o' =>
      have y := k _ _ z
      rw [h] at y
      cases y
      exact xo_at hok (t _ _ z)
  · cases z : C.lookup b with
    | none => exact un.slot b o h (by rw [seal_out z]; exact n) m x
    | some o' => exact absurd m (nf _ _ z)
  · cases z : C.lookup b with
    | none => rw [open_out z]; exact un.free b o h (by rw [seal_out z]; exact n) x
    | some o' => exact open_in z
  · rw [open_out (ns h)]; exact un.tups b xs (by rw [seal_out (ns h)]; exact h)
  · rw [open_out (ns h)]; exact un.frzs b o v (by rw [seal_out (ns h)]; exact h)
  · obtain ⟨more, q⟩ := un.tbls b ps (by rw [seal_out (ns h)]; exact h)
    exact ⟨more, by rw [open_out (ns h)]; exact q⟩
end
end Eg

/-! Lambdas handed to defs. -/
namespace Eg
open PySem L2
open NdefX (NTab TabN TabsN CellsAt NScope NF startF ncx envF)
open LamX (CodeO TabB)
/-- the lambda's function at f: its code c', its captured cells cl -/
def LamO (f : Addr) (q : Str) (params : Arguments) (body : Expr) (scope : Scope) (cl : List (Str × Addr)) (c' : Addr) : HO :=
  .ext fun h => ∃ pm ctv, h.get? f = some (PySem.W.kla_obj "<lambda>" q params body scope cl pm c' ctv)
structure LamAt (H : Hp) (f : Addr) (q : Str) (params : Arguments) (body : Expr) (scope : Scope) (cl : List (Str × Addr)) (c' : Addr) : Prop where
  fn : H f = some (LamO f q params body scope cl c')
  cd : H c' = some (CodeO c' q)
section
variable {X : Cx} {pins : List (Addr × Obj)} {σ : L2.St} {H : Hp} {s : Shared}
theorem lam_known {q : Str} {params : Arguments} {body : Expr} {scope : Scope} {cl : List (Str × Addr)} {c' : Addr} {pm ctv : Value} {t' : Nat} (I : Inv X pins σ H s) :
    Inv X pins σ (upd H s.heap.objs.size (LamO s.heap.objs.size q params body scope cl c')) { s with heap := s.heap.push (PySem.W.kla_obj "<lambda>" q params body scope cl pm c' ctv), toks := t' } := by
  have e : (s.heap.push (PySem.W.kla_obj "<lambda>" q params body scope cl pm c' ctv)).get? s.heap.objs.size = some (PySem.W.kla_obj "<lambda>" q params body scope cl pm c' ctv) := Heap.get?_push_size _ rfl
  exact I.laid (a := s.heap.objs.size) (fun b u z => Heap.get?_push_of_some _ z) (Nat.le_refl _) ⟨⟨pm, ctv, e⟩, ⟨_, e⟩, fun h1 h2 ⟨x, y, z⟩ st => ⟨x, y, st _ z⟩⟩
theorem lam_mk {T : List NTab} {nm : Nat → Nat → Str} {c P : Addr} {params : Arguments} {body : Expr} {scope : Scope} {pos : Pos} {E Q : Value → Shared → Prop} (I : Inv X pins σ H s) (TB : TabB X.base X.mg c P) (hcode : X.env.code = .ref c)
    (hm : (P, nm) ∈ T) (hn : nm pos.line pos.col = X.env.qual ++ "<lambda>") (hu : ∀ p ∈ T, p.1 = P → p.2 = nm) (hT : TabsN T H) (hdef : defaultsOf params X.env = ([], []))
    (hfree : ∀ y ∈ scope.names, y.2 = .free → ∃ c, X.env.cells.lookup y.1 = some c)
    (h : ∀ (f c' : Addr) (H1 : Hp) (s' : Shared), Inv X pins σ H1 s' → (∀ b o, H b = some o → (∀ ps, o ≠ .tbl ps) → H1 b = some o) → (∀ b, H1 b = none → H b = none) → TabsN T H1 → H f = none →
      LamAt H1 f (X.env.qual ++ "<lambda>") params body scope (cloFrom X.env.cells scope.names []) c' → Q (.ref f) s') :
    wpAny (model X.prog X.w) X.A (eval (.Lambda params body scope pos) X.env) Q E s := by
  refine PySem.W.kla_eval hdef ?_
  obtain ⟨tb, gT, gt, ga⟩ := hT (P, nm) hm
  have gT : H P = some (.tbl tb) := gT
  have oT : s.heap.get? P = some { cls := .none, data := .fields tb } := I.hok _ _ gT
  have bB : s.heap.BuiltinsAt X.mg P := TB.bm.keeps I.bk
  have cO := closure_ok hfree
  have nTb : ∀ {b u}, H b = some u → (∀ ps, u ≠ .tbl ps) → b ≠ P := fun {b u} e n z => by
    rw [z, gT] at e
    exact n tb (Option.some.inj e).symm
  rcases hc : codeAmong pos tb.toList with _ | cv
  · refine PySem.W.kla_makeFunction (mg := X.mg) (ps := tb) (P := P) (c := c) cO I.ok.glob (I.mod.glob.keeps I.bk) hcode (TB.code.keeps I.bk) oT gt hc TB.gP bB ?_
    intro c' ctv h' tk kp c1 c2 rcd tab
    obtain ⟨cc, oc, vs, t, ec, g1, g2, g3⟩ := rcd
    obtain rfl : c' = cc := by cases ec; rfl
    have fr : H c' = none := I.hok.fresh c1
    have J := LamX.inv_table (t' := tk) (h' := h') (more := #[rawInt pos.line, rawInt pos.col, .ref c']) I gT (fun b o n e => kp b o n e) tab c1 ⟨oc, vs, t, g1, g2, g3⟩
    have nF := J.hok.fresh (Nat.le_refl _)
    have J2 := lam_known (q := X.env.qual ++ "<lambda>") (params := params) (body := body) (scope := scope) (cl := cloFrom X.env.cells scope.names []) (c' := c') (pm := (X.mg "__name__").getD .none) (ctv := ctv) (t' := tk) J
    have nPc : P ≠ c' := ne_of_none gT fr
    have keep : ∀ b o, H b = some o → (∀ ps, o ≠ .tbl ps) → upd (upd H P (.tbl (tb ++ #[rawInt pos.line, rawInt pos.col, .ref c']))) c' (CodeO c' (X.env.qual ++ "<lambda>")) b = some o := fun b o e n => by
      rw [upd_ne (ne_of_none e fr), upd_ne (nTb e n)]
      exact e
    have k2 : ∀ {b o}, upd (upd H P (.tbl (tb ++ #[rawInt pos.line, rawInt pos.col, .ref c']))) c' (CodeO c' (X.env.qual ++ "<lambda>")) b = some o → b ≠ h'.objs.size := fun {b o} e z => by
      rw [z] at e
      exact absurd (e.symm.trans nF) (by simp)
    have cdE : upd (upd H P (.tbl (tb ++ #[rawInt pos.line, rawInt pos.col, .ref c']))) c' (CodeO c' (X.env.qual ++ "<lambda>")) c' = some (CodeO c' (X.env.qual ++ "<lambda>")) := upd_same
    refine h _ c' _ _ J2 (fun b o e n => ?_) (fun b e => NdefX.upd_none (NdefX.upd_none (NdefX.upd_none e))) ?_ (I.hok.fresh (Nat.le_trans c1 (Nat.le_of_lt c2))) ⟨upd_same, ?_⟩
    · have y := keep b o e n
      exact (upd_ne (k2 y)).trans y
    · refine TabsN.ext (H := upd (upd H P (.tbl (tb ++ #[rawInt pos.line, rawInt pos.col, .ref c']))) c' (CodeO c' (X.env.qual ++ "<lambda>"))) (fun p hp => ?_) fun b o e => (upd_ne (k2 e)).trans e
      by_cases hb : p.1 = P
      · have e2 := hu p hp hb
        obtain ⟨p1, p2⟩ := p
        subst hb e2
        have eL : (tb ++ #[rawInt pos.line, rawInt pos.col, .ref c']).toList = tb.toList ++ [rawInt pos.line, rawInt pos.col, .ref c'] := by simp
        refine ⟨_, (upd_ne nPc).trans upd_same, by rw [eL]; exact PySem.TriplesOk_snoc _ _ _ _ gt, fun p' cv hcv => ?_⟩
        rw [eL] at hcv
        rcases NdefX.among_app2 _ gt hcv with z | ⟨z, z1, z2⟩
        · obtain ⟨c0, w1, w2⟩ := ga p' cv z
          exact ⟨c0, w1, keep _ _ w2 LamX.codeO_ne⟩
        · exact ⟨c', z, by
            have hn' : p2 pos.line pos.col = X.env.qual ++ "<lambda>" := hn
            show _ = some (CodeO c' (p2 p'.line p'.col))
            rw [← z1, ← z2, hn']
            exact upd_same⟩
      · obtain ⟨tb2, a1, a2, a3⟩ := hT p hp
        refine ⟨tb2, (upd_ne (ne_of_none a1 fr)).trans ((upd_ne hb).trans a1), a2, fun p' cv hcv => ?_⟩
        obtain ⟨c0, w1, w2⟩ := a3 p' cv hcv
        exact ⟨c0, w1, keep _ _ w2 LamX.codeO_ne⟩
    · exact (upd_ne (k2 cdE)).trans cdE
  · obtain ⟨c', e, hco⟩ := ga pos cv hc
    subst e
    have hco : H c' = some (CodeO c' (nm pos.line pos.col)) := hco
    rw [hn] at hco
    refine PySem.W.kla_makeFunctionHit (mg := X.mg) (ps := tb) (P := P) (c := c) cO I.ok.glob (I.mod.glob.keeps I.bk) hcode (TB.code.keeps I.bk) oT gt hc bB ?_
    intro ctv h' tk kp hsz
    have J : Inv X pins σ H { s with heap := h', toks := tk } := I.kept kp
    have nF : H h'.objs.size = none := J.hok.fresh (Nat.le_refl _)
    have J2 := lam_known (q := X.env.qual ++ "<lambda>") (params := params) (body := body) (scope := scope) (cl := cloFrom X.env.cells scope.names []) (c' := c') (pm := (X.mg "__name__").getD .none) (ctv := ctv) (t' := tk) J
    refine h _ c' _ _ J2 (fun b o e _ => (upd_ne (ne_of_none e nF)).trans e) (fun b e => NdefX.upd_none e) (hT.ext fun b o e => (upd_ne (ne_of_none e nF)).trans e) nF ⟨upd_same, (upd_ne (ne_of_none hco nF)).trans hco⟩
end
/-! ### its call -/
section
variable {P : Program} {w : World} {K : PySem.W.Frag} {mg : Str → Option Value} {base : Heap} {CX : CXT} {N ps fr : List Str} {f c' : Addr} {q : Str} {params : Arguments} {body : Expr} {scope : Scope} {cl : List (Str × Addr)} {k : Nat}
abbrev lamF (q : Str) (params : Arguments) (scope : Scope) (cl : List (Str × Addr)) (c' : Addr) : NF := ⟨"<lambda>", q, params, [], scope, cl, c'⟩
theorem lam_run {A : Around} {outer : List Env} {s : Shared} {H : Hp} {us : List Value} {vs : List V} {ws : List (Option V)} {Q : VK} {E : XK} {t : TE} (S : NScope N ps fr scope) (hb : ∀ (pm ctv : Value) (us : List Value), us.length = ps.length → bindArgs (PySem.W.kla_fn "<lambda>" q params body scope cl pm (.ref c') ctv) ⟨us, []⟩ = pure (ps.zip us))
    (hr : Room (k + 1) A) (e0 : Env0 P w K mg base A outer s H) (hL : LamAt H f q params body scope cl c') (Cs : CellsAt cl fr ws s.heap H) (r : Vals vs us) (hl : vs.length = ps.length)
    (hbody : Room k (A.deeper (envF (lamF q params scope cl c') f s.heap.objs.size)) → PE (ncx CX P w K mg base N (lamF q params scope cl c') f A outer s H E) body t) (ht : t (startF N vs ws) H Q) :
    codeAny (model P w) A (.call (.ref f) ⟨us, []⟩) (CR CX outer P w H s Q E) s := by
  obtain ⟨⟨pm, ctv, ho⟩, _, _⟩ := e0.hok f _ hL.fn
  have rcd : s.heap.CodeRec (.ref c') q := NdefX.codeO_at e0.hok hL.cd
  have nl : s.heap.NoLimit := e0.mod.nolimit.keeps fun b o e => (e0.bs b o e).1
  refine PySem.W.kla_callFunE hr.depth ho rfl S.co S.gen rfl rcd ?_
  rw [hb pm ctv us (by rw [← r.length]; exact hl)]
  refine wpAny_pure (wpAny_newFunctionEnv S.nocell (fun p hp => S.par p.1 (List.of_mem_zip (a := p.1) (b := p.2) hp).1) (fun h1 hns hsb => ⟨nl.fresh _ hsb, ?_⟩) S.kind)
  have kp : ∀ b o, s.heap.get? b = some o → h1.get? b = some o := fun b o e => hsb.extBut b o (Nat.ne_of_lt (Heap.lt_size e)) (Heap.get?_push_of_some _ e)
  have I : L2.Inv (ncx CX P w K mg base N (lamF q params scope cl c') f A outer s H E) [] (startF N vs ws) H { s with heap := h1, toks := s.toks + (ps.zip us).length } := NdefX.inv_startN S hr.hd e0 hl r Cs hns kp
  refine PySem.W.kla_codeExpr (wpAny_mono ((hbody (hr.deeper _)).run [] _ _ H Q I ht) (fun v s2 hq => ?_) fun e s2 hq => hq)
  obtain ⟨x, H2, J, rv, z⟩ := hq
  exact ⟨x, H2, J.os, J.bare, J.base, J.hok, rv, z⟩
/-! ### things that can be called -/
/-- what is promised of a call with plain values -/
def spV (K : PySem.W.Frag) (Z : Stc) (g : FV) : List V → Hp → VK → Prop := fun vs H Q => ∃ S st args, Wf S H ∧ StR K Z S H st ∧ RepL K Z S args vs ∧ Post K Z S H (fun S' _ v y => Rep K Z S' v y) Q (fun _ _ _ => False) (g args st)
structure CalOk (P : Program) (w : World) (K : PySem.W.Frag) (mg : Str → Option Value) (base : Heap) (Z : Stc) (J : Nat) (f : Addr) (g : FV) (B : List (Addr × HO)) : Prop where
  at_ : ∀ (A : Around) (outer : List Env) (s : Shared) (H : Hp), Env0 P w K mg base A outer s H → (∀ p ∈ B, H p.1 = some p.2) → PySem.W.FnAt f s.heap
  run : ∀ (A : Around) (outer : List Env) (s : Shared) (H : Hp) (us : List Value) (vs : List V) (Q : VK), Room J A → Env0 P w K mg base A outer s H → (∀ p ∈ B, H p.1 = some p.2) → Vals vs us → spV K Z g vs H Q →
    codeAny (model P w) A (.call (.ref f) ⟨us, []⟩) (CR (L2.CX P w) outer P w H s Q E0) s
/-- the captured slots: plain values, as the cells hold them -/
structure Capt (K : PySem.W.Frag) (Z : Stc) (cap : List (Option Slot)) (ws : List (Option V)) : Prop where
  len : cap.length = ws.length
  at_ : ∀ (i : Nat) (sl : Slot), cap[i]? = some (some sl) → ∃ v x, sl = .val v ∧ ws[i]? = some (some x) ∧ ∀ S, Rep K Z S v x
def gLam (N n : Nat) (cap : List (Option Slot)) (db : DE) : FV := fun args st => if args.length = n then (db (args.map (fun v => some (Slot.val v)) ++ (cap ++ List.replicate (N - n - cap.length) none)) st).calm.bind fun r st => match r with
  | .val v => .ok v st
  | _ => .bad
  else .bad
/-- the cells' objects -/
structure CloF (C : Cl0) (cl : List (Str × Addr)) (fr : List Str) (ws : List (Option V)) : Prop where
  len : ws.length = fr.length
  all : ∀ y c, cl.lookup y = some c → ∃ o v, C.lookup c = some o ∧ o.data = .cell v
  inj : ∀ x y c, cl.lookup x = some c → cl.lookup y = some c → x = y
  has : ∀ (i : Nat) (y : Str), fr[i]? = some y → ∃ c o, cl.lookup y = some c ∧ C.lookup c = some o ∧ ∀ v, ws[i]? = some (some v) → ∃ u, L2.RelV v u ∧ o.data = .cell (some u)
theorem CloF.cells {C : Cl0} {ws : List (Option V)} {H : Hp} {h : Heap} (c : CloF C cl fr ws) (hok : HOk P w H h) (t : Told C H) : CellsAt cl fr ws h (openH C H) := by
  refine ⟨c.len, fun y a e => ?_, c.inj, fun i y e => ?_⟩
  · obtain ⟨o, v, z1, z2⟩ := c.all y a e
    exact ⟨open_in z1, v, o, xo_at hok (t _ _ z1), z2⟩
  · obtain ⟨a, o, z1, z2, z3⟩ := c.has i y e
    refine ⟨a, z1, fun v ev => ?_⟩
    obtain ⟨u, r, z⟩ := z3 v ev
    exact ⟨u, r, o, xo_at hok (t _ _ z2), z⟩
def lamB (C : Cl0) (f : Addr) (q : Str) (params : Arguments) (body : Expr) (scope : Scope) (cl : List (Str × Addr)) (c' : Addr) : List (Addr × HO) :=
  (f, LamO f q params body scope cl c') :: (c', CodeO c' q) :: C.map fun p => (p.1, XO p.1 p.2)
theorem mem_lookA {o : Obj} {a : Addr} : ∀ {l : Cl0}, l.lookup a = some o → (a, o) ∈ l
  | [], h => by cases h
  | (b, v) :: r, h => by
    rw [List.lookup_cons] at h
    split at h
    · rename_i z
      cases h
      rw [beq_iff_eq.mp z]
      exact List.mem_cons_self
    · exact List.mem_cons_of_mem _ (mem_lookA h)
theorem told_of {C : Cl0} {H : Hp} (h : ∀ p ∈ C.map (fun p => (p.1, XO p.1 p.2)), H p.1 = some p.2) : Told C H := fun a o e =>
  h (a, XO a o) (List.mem_map.mpr ⟨(a, o), mem_lookA e, rfl⟩)
theorem lamAt_open {C : Cl0} {H : Hp} (h : LamAt H f q params body scope cl c') (t : Told C H) : LamAt (openH C H) f q params body scope cl c' :=
  ⟨open_to h.fn (fun o z => by unfold XO LamO at z; cases z) t, open_to h.cd (fun o z => by unfold XO CodeO at z; cases z) t⟩
theorem repL_len {K : PySem.W.Frag} {Z : Stc} {S : Gh} : ∀ {vs : List Val} {xs : List V}, RepL K Z S vs xs → vs.length = xs.length
  | [], xs, h => by
    have e : xs = [] := by simpa only [RepL] using h
    rw [e]; rfl
  | v :: vs, xs, h => by
    simp only [RepL] at h
    obtain ⟨x, r, rfl, _, t⟩ := h
    rw [List.length_cons, List.length_cons, repL_len t]
theorem repL_at {K : PySem.W.Frag} {Z : Stc} {S : Gh} : ∀ {vs : List Val} {xs : List V} {i : Nat} {v : Val}, RepL K Z S vs xs → vs[i]? = some v → ∃ x, xs[i]? = some x ∧ Rep K Z S v x
  | [], _, _, _, _, e => by simp at e
  | b :: as, xs, 0, a, h, e => by
    simp only [RepL] at h
    obtain ⟨x, r, rfl, h1, t⟩ := h
    simp at e
    subst e
    exact ⟨x, rfl, h1⟩
  | b :: as, xs, i + 1, a, h, e => by
    simp only [RepL] at h
    obtain ⟨x, r, rfl, h1, t⟩ := h
    obtain ⟨y, e1, e2⟩ := repL_at (i := i) t (by simpa using e)
    exact ⟨y, by simpa using e1, e2⟩
theorem sr_lam {K : PySem.W.Frag} {Z : Stc} {S : Gh} {H : Hp} {st : Store} {args : List Val} {vs : List V} {cap : List (Option Slot)} {ws : List (Option V)} (w0 : Wf S H) (s0 : StR K Z S H st) (r : RepL K Z S args vs) (cp : Capt K Z cap ws) :
    SR K Z S (startF N vs ws) H (args.map (fun v => some (Slot.val v)) ++ (cap ++ List.replicate (N.length - args.length - cap.length) none)) st := by
  have hl := repL_len r
  have vl : ∀ {i : Nat} {sl : Slot}, (args.map (fun v => some (Slot.val v)) ++ (cap ++ List.replicate (N.length - args.length - cap.length) none))[i]? = some (some sl) → ∃ v x, sl = .val v ∧ (startF N vs ws)[i]? = some (some x) ∧ Rep K Z S v x := fun {i sl} e => by
    unfold startF
    by_cases h1 : i < args.length
    · rw [List.getElem?_append_left (by simpa using h1), List.getElem?_map] at e
      cases ea : args[i]? with
      | none => rw [ea] at e; cases e
      | some v =>
        rw [ea] at e
        have e' : Slot.val v = sl := Option.some.inj (Option.some.inj e)
        obtain ⟨x, z1, z2⟩ := repL_at r ea
        exact ⟨v, x, e'.symm, by rw [List.getElem?_append_left (by rw [List.length_map, ← hl]; exact h1), List.getElem?_map, z1] <;> rfl, z2⟩
    · rw [List.getElem?_append_right (by simpa using h1), List.length_map] at e
      rw [List.getElem?_append_right (by rw [List.length_map, ← hl]; omega), List.length_map, ← hl]
      by_cases h2 : i - args.length < cap.length
      · rw [List.getElem?_append_left h2] at e
        obtain ⟨v, x, z1, z2, z3⟩ := cp.at_ _ _ e
        exact ⟨v, x, z1, by rw [List.getElem?_append_left (by rw [← cp.len]; exact h2)]; exact z2, z3 S⟩
      · rw [List.getElem?_append_right (by omega), List.getElem?_replicate] at e
        split at e <;> cases e
  refine ⟨w0, s0, ?_, fun i sl e => ?_, fun i j si sj l _ e1 o1 _ _ _ _ => ?_⟩
  · unfold startF
    simp only [List.length_append, List.length_map, List.length_replicate, hl, cp.len]
  · obtain ⟨v, x, rfl, z1, z2⟩ := vl e
    exact ⟨x, z1, z2⟩
  · obtain ⟨v, x, rfl, _, _⟩ := vl e1
    cases o1
theorem cal_lam {Z : Stc} {C : Cl0} {cap : List (Option Slot)} {ws : List (Option V)} {db : DE} (S : NScope N ps fr scope) (hb : ∀ (pm ctv : Value) (us : List Value), us.length = ps.length → bindArgs (PySem.W.kla_fn "<lambda>" q params body scope cl pm (.ref c') ctv) ⟨us, []⟩ = pure (ps.zip us))
    (cf : CloF C cl fr ws) (cp : Capt K Z cap ws)
    (hbody : ∀ (A : Around) (outer : List Env) (s : Shared) (H : Hp), Room k (ncx (L2.CX P w) P w K mg base N (lamF q params scope cl c') f A outer s H E0).A → ME Z (ncx (L2.CX P w) P w K mg base N (lamF q params scope cl c') f A outer s H E0) W0 body db) :
    CalOk P w K mg base Z (k + 1) f (gLam N.length ps.length cap db) (lamB C f q params body scope cl c') := by
  have la : ∀ {H : Hp}, (∀ p ∈ lamB C f q params body scope cl c', H p.1 = some p.2) → LamAt H f q params body scope cl c' ∧ Told C H := fun {H} h =>
    ⟨⟨h _ List.mem_cons_self, h (c', _) (List.mem_cons_of_mem _ List.mem_cons_self)⟩, told_of fun p hp => h p (List.mem_cons_of_mem _ (List.mem_cons_of_mem _ hp))⟩
  refine ⟨fun A outer s H e0 h => ?_, fun A outer s H us vs Q hr e0 h r sp => ?_⟩
  · obtain ⟨⟨pm, ctv, ho⟩, _, _⟩ := e0.hok f _ (la h).1.fn
    exact ⟨_, _, _, _, ho⟩
  · obtain ⟨hL, t⟩ := la h
    obtain ⟨S0, st0, args, w0, s0, ra, po⟩ := sp
    have hlen := repL_len ra
    by_cases hn : args.length = ps.length
    · have e1 := env0_open e0 t
      refine codeAny_mono (lam_run (CX := L2.CX P w) (E := E0) (Q := fun v H2 => Free C H2 → Q v (sealH C H2)) (t := tOf K Z W0 (rpE K Z) db) S hb hr e1 (lamAt_open hL t) (cf.cells e0.hok t) r (hlen.symm.trans hn) (fun hr' => pe_of (hbody A outer s (openH C H) hr')) ?_) fun rr s' hq => ?_
      · refine ⟨S0, _, st0, sr_lam (N := N) (wf_open w0 t) (str_open s0 t) ra cp, ?_⟩
        have po2 := post_open (RP' := fun S' _ v y => Rep K Z S' v y) t (fun S' H2 a y _ _ z => z) po
        unfold gLam at po2
        rw [if_pos hn, ← hn] at po2
        cases ed : db (args.map (fun v => some (Slot.val v)) ++ (cap ++ List.replicate (N.length - args.length - cap.length) none)) st0 with
        | bad => rw [ed] at po2; exact po2
        | exc c fs st1 => rw [ed] at po2; exact po2.elim
        | ok rr st1 =>
          rw [ed] at po2
          cases rr with
          | val v => exact po2
          | own vs => exact po2.elim
          | ownd ks vs => exact po2.elim
      · cases rr with
        | error e =>
          obtain ⟨_, _, _, _, _, _, _, _, _, _, _, _, z⟩ := (show L2.CX P w outer (openH C H) s E0 e s' from hq)
          exact z.elim
        | ok fl =>
          cases fl with
          | ret u => exact ce_seal e0 t hq
          | next => exact hq.elim
          | brk => exact hq.elim
          | cont => exact hq.elim
    · unfold gLam at po
      rw [if_neg hn] at po
      exact po.elim
end
end Eg

/-! Rules: a def handed a lambda, a def's name handed on, a slot that can be called. -/
namespace Eg
open PySem L2
open NdefX (NTab TabN TabsN CellsAt NScope NF startF ncx envF slotAt)
open LamX (CodeO TabB)
/-- Z tells of just what can be called -/
structure ZC (P : Program) (w : World) (K : PySem.W.Frag) (mg : Str → Option Value) (base : Heap) (Z : Stc) (J : Nat) : Prop where
  of : ∀ f g B, Z.cal f g B → CalOk P w K mg base Z J f g B
  to : ∀ f g B, CalOk P w K mg base Z J f g B → Z.cal f g B
theorem CalOk.mono {P : Program} {w : World} {K : PySem.W.Frag} {mg : Str → Option Value} {base : Heap} {Z : Stc} {i j : Nat} {f : Addr} {g : FV} {B : List (Addr × HO)} (c : CalOk P w K mg base Z i f g B) (h : i ≤ j) : CalOk P w K mg base Z j f g B :=
  ⟨c.at_, fun A outer s H us vs Q hr => c.run A outer s H us vs Q (hr.mono h)⟩
/-! ### the same whatever can be called -/
section
variable {K : PySem.W.Frag} {Z : Stc} {S : Gh} {H : Hp}
def Stc.wc (Z : Stc) (c : Addr → FV → List (Addr × HO) → Prop) : Stc := { Z with cal := c }
mutual
theorem Rep.wc {c : Addr → FV → List (Addr × HO) → Prop} : ∀ (v : Val) (x : V), Rep K Z S v x → Rep K (Z.wc c) S v x
  | .non, x, h => by simpa only [Rep] using h
  | .bl _, x, h => by simpa only [Rep] using h
  | .int _, x, h => by simpa only [Rep] using h
  | .str _, x, h => by simpa only [Rep] using h
  | .tup vs, x, h => by
    simp only [Rep] at h ⊢
    obtain ⟨b, xs, e, q, r⟩ := h
    exact ⟨b, xs, e, q, RepL.wc vs xs r⟩
  | .lst vs, x, h => by
    simp only [Rep] at h ⊢
    obtain ⟨b, xs, e, q, r⟩ := h
    exact ⟨b, xs, e, q, RepL.wc vs xs r⟩
  | .slst vs, x, h => by
    simp only [Rep] at h ⊢
    obtain ⟨b, xs, e, q, r⟩ := h
    exact ⟨b, xs, e, q, RepL.wc vs xs r⟩
  | .dic ks vs, x, h => by
    simp only [Rep] at h ⊢
    obtain ⟨b, xs, e, q, k, r⟩ := h
    exact ⟨b, xs, e, q, k, RepL.wc vs _ r⟩
  | .obj i, x, h => by simpa only [Rep] using h
  | .fn n, x, h => by
    simp only [Rep] at h ⊢
    exact h
theorem RepL.wc {c : Addr → FV → List (Addr × HO) → Prop} : ∀ (vs : List Val) (xs : List V), RepL K Z S vs xs → RepL K (Z.wc c) S vs xs
  | [], _, h => by simpa only [RepL] using h
  | v :: vs, xs, h => by
    simp only [RepL] at h ⊢
    obtain ⟨x, r, e, h1, h2⟩ := h
    exact ⟨x, r, e, Rep.wc v x h1, RepL.wc vs r h2⟩
end
theorem StR.wc {c : Addr → FV → List (Addr × HO) → Prop} {st : Store} (h : StR K Z S H st) : StR K (Z.wc c) S H st :=
  ⟨h.tab, h.len, h.nd, h.dl, fun i o e => by
    rcases h.ob i o e with ⟨b, dx, fs, hc, ha, hd', hh, hf⟩ | ⟨vs, e, b, xs, ha, hd', hh, hf⟩ | ⟨ks, vs, e, b, kxs, ha, hd', hh, hk, hf⟩ | ⟨e, b, ha, hd'⟩
    · exact .ins b dx fs hc ha hd' hh ⟨hf.1, RepL.wc _ _ hf.2⟩
    · exact .lst vs e b xs ha hd' hh (RepL.wc _ _ hf)
    · exact .dic ks vs e b kxs ha hd' hh hk (RepL.wc _ _ hf)
    · exact .no e b ha hd'⟩
theorem spV_wc {c : Addr → FV → List (Addr × HO) → Prop} {g : FV} {vs : List V} {Q : VK} (h : spV K Z g vs H Q) : spV K (Z.wc c) g vs H Q := by
  obtain ⟨S, st, args, w, s, r, p⟩ := h
  refine ⟨S, st, args, w, s.wc, RepL.wc _ _ r, ?_⟩
  cases e : g args st with
  | bad => rw [e] at p; exact p
  | exc cc fs st1 => 
    rw [e] at p
    refine fun cls d S' H' e1 w1 s1 x1 => p cls d S' H' e1 w1 (StR.wc (Z := Z.wc c) (c := Z.cal) s1) ⟨x1.1, ?_⟩
    rcases x1.2 with z | ⟨dd, xs, z1, z2, z3, z4, z5⟩
    · exact .inl z
    · exact .inr ⟨dd, xs, z1, z2, z3, z4, RepL.wc (Z := Z.wc c) (c := Z.cal) _ _ z5⟩
  | ok v st1 =>
    rw [e] at p
    exact fun y S' H' e1 w1 s1 q => p y S' H' e1 w1 (StR.wc (Z := Z.wc c) (c := Z.cal) s1) (Rep.wc (Z := Z.wc c) (c := Z.cal) _ _ q)
theorem CalOk.wc {P : Program} {w : World} {mg : Str → Option Value} {base : Heap} {j : Nat} {f : Addr} {g : FV} {B : List (Addr × HO)} {c : Addr → FV → List (Addr × HO) → Prop} (k : CalOk P w K mg base Z j f g B) : CalOk P w K mg base (Z.wc c) j f g B :=
  ⟨k.at_, fun A outer s H us vs Q hr e hb r h => k.run A outer s H us vs Q hr e hb r (spV_wc (Z := Z.wc c) (c := Z.cal) h)⟩
/-- Z with all that can be called -/
def Stc.full (Z : Stc) (P : Program) (w : World) (K : PySem.W.Frag) (mg : Str → Option Value) (base : Heap) (J : Nat) : Stc := Z.wc fun f g B => CalOk P w K mg base Z J f g B
theorem zc_full {P : Program} {w : World} {mg : Str → Option Value} {base : Heap} {J : Nat} : ZC P w K mg base (Z.full P w K mg base J) J :=
  ⟨fun _ _ _ h => CalOk.wc h, fun _ _ _ h => CalOk.wc (Z := Z.full P w K mg base J) (c := Z.cal) h⟩
end
/-! ### a slot that can be called -/
section
variable {Z : Stc} {X : Cx} {W : WX} {J : Nat}
@[simp] def dFnv (i : Nat) : D1 := fun env st => match env[i]? with
  | some (some (.fnv g)) => .ok (.fnv g) st
  | _ => .bad
/-- .. handed on -/
theorem m1_fnv {x : Str} {pos : Pos} (i : Nat) (h : PE X (.Name x pos) (tVar i)) : M1 Z X W (.Name x pos) (dFnv i) := by
  refine ⟨_, h, fun S σ H env st Q r p => ?_⟩
  unfold dFnv at p
  split at p
  · rename_i g e
    obtain ⟨x, h1, h2⟩ := r.sl i _ e
    exact ⟨x, h1, p x S H (Ext.refl S H) r.wf r.str h2⟩
  · exact p.elim
def dCallV (i : Nat) (ds : List DP) : DE := fun env st => match env[i]? with
  | some (some (.fnv g)) => (dVals ds env st).bind fun vs st1 => (g vs st1).calm.bind fun v st2 => .ok (.val v) st2
  | _ => .bad
def tCallV (K : PySem.W.Frag) (Z : Stc) (i : Nat) (t : TA) : TE := fun σ H Q => ∃ f g B, σ[i]? = some (some (.ref f)) ∧ Z.cal f g B ∧ (∀ p ∈ B, H p.1 = some p.2) ∧ t σ H fun vs H1 => (∀ p ∈ B, H1 p.1 = some p.2) ∧ spV K Z g vs H1 Q
theorem pe_callV {i : Nat} {x : Str} {e : Expr} {es : List Expr} {t : TA} {p pos : Pos} (zc : ZC X.prog X.w X.K X.mg X.base Z J) (hr : Room J X.A) (hv : PE X (.Name x p) (tVar i)) (ha : PA X (e :: es) t)
    (he : starEach (e :: es) X.env = (false, eval e X.env) :: starEach es X.env := by rfl) (hpl : (backTo pos (starEach es X.env)).any (·.1) = false := by rfl) :
    PE X (.Call (.Name x p) (e :: es) [] pos) (tCallV X.K Z i t) := by
  refine ⟨fun pins s σ H Q I h => ?_⟩
  obtain ⟨f, g, B, hs, hc, hb, ht⟩ := h
  have C := zc.of f g B hc
  refine wpAny_Call_Name_kw (thn (hv.run pins s σ H (fun v H1 => v = .ref f ∧ H1 = H) I ⟨.ref f, hs, rfl, rfl⟩) fun u s1 ⟨v, H1, I1, r1, q1⟩ => ?_)
  obtain ⟨rfl, rfl⟩ := q1
  obtain rfl : u = Value.ref f := r1
  refine PySem.W.callWith_F (first := []) (C.at_ _ _ _ _ I1.env0 hb) (thn (ha.run pos pins s1 σ _ _ I1 ht) fun us s2 ⟨vs, H2, I2, r, hb2, q⟩ => ⟨C.at_ _ _ _ _ I2.env0 hb2, ?_⟩) he hpl
  show wpAny _ _ (call (.ref f) us) _ _ _
  refine wpAny_call (codeAny_mono (C.run X.A X.stack s2 H2 us vs Q hr I2.env0 hb2 r q) fun rr s' hq => ?_)
  cases rr with
  | error e => exact passX pins σ H2 s2 e s' I2 hq
  | ok fl =>
    cases fl with
    | ret u => exact I2.after hq
    | next => exact hq.elim
    | brk => exact hq.elim
    | cont => exact hq.elim
theorem me_callV {i : Nat} {x : Str} {e : Expr} {es : List Expr} {ds : List DP} {p pos : Pos} (zc : ZC X.prog X.w X.K X.mg X.base Z J) (hr : Room J X.A) (hv : PE X (.Name x p) (tVar i)) (ha : MVs Z X W (e :: es) (dVals ds))
    (he : starEach (e :: es) X.env = (false, eval e X.env) :: starEach es X.env := by rfl) (hpl : (backTo pos (starEach es X.env)).any (·.1) = false := by rfl) :
    ME Z X W (.Call (.Name x p) (e :: es) [] pos) (dCallV i ds) := by
  obtain ⟨t, h1, h2⟩ := ha
  refine ⟨_, pe_callV zc hr hv h1 he hpl, fun S σ H env st Q r po => ?_⟩
  unfold dCallV at po
  split at po
  · rename_i g e
    obtain ⟨x, k1, f, B, rfl, hc, hB⟩ := r.sl i _ e
    refine ⟨f, g, B, k1, hc, fun p hp => (hB p hp).2, h2 S σ H env st _ r ?_⟩
    cases ev : dVals ds env st with
    | bad => rw [ev] at po; exact po.elim
    | exc c fs st1 => rw [ev] at po; exact po
    | ok vs st1 =>
      rw [ev] at po
      intro xs S1 H1 e1 w1 s1 q1
      refine ⟨fun p hp => ?_, S1, st1, vs, w1, s1, q1, ?_⟩
      · obtain ⟨z1, z2⟩ := hB p hp
        exact e1.frame _ _ z2 (not_rho r.wf z2 (co_mb z1) (co_tbl z1))
      · have po : Post X.K Z S H (rpE X.K Z H) Q (fun c dd H' => W c dd σ H') ((g vs st1).calm.bind fun v st2 => .ok (.val v) st2) := po
        cases eg : g vs st1 with
        | bad => rw [eg] at po; exact po.elim
        | exc c fs st2 => rw [eg] at po; exact po.elim
        | ok v st2 =>
          rw [eg] at po
          exact fun y S' H' e2 w2 s2 q2 => po y S' H' (e1.trans e2) w2 s2 q2
  · exact po.elim
/-! ### a def's name as a thing that can be called -/
def gOf (D : FD) (n : Nat) : FV := fun args st => if args.length = n then (D (args.map Arg.val) st).calm.bind fun r st => match r with
  | .val v => .ok v st
  | _ => .bad
  else .bad
/-- the def x is an object of K -/
structure Fg (K : PySem.W.Frag) (mg : Str → Option Value) (x : Str) : Prop where
  ex : ∃ f oc od fd sl, mg x = some (.ref f) ∧ K.lookup f = some ⟨oc, od, .func fd, sl⟩
theorem arsR_vals {K : PySem.W.Frag} {S : Gh} {H : Hp} : ∀ {vs : List Val} {xs : List V}, RepL K Z S vs xs → ArsR K Z S H (vs.map Arg.val) xs
  | [], xs, h => by
    have e : xs = [] := by simpa only [RepL] using h
    subst e
    simp only [List.map_nil, ArsR]
  | v :: vs, xs, h => by
    simp only [RepL] at h
    obtain ⟨x, r, rfl, h1, h2⟩ := h
    simp only [List.map_cons, ArsR]
    exact ⟨x, r, rfl, h1, arsR_vals h2⟩
theorem cal_def {P : Program} {w : World} {K : PySem.W.Frag} {mg : Str → Option Value} {base : Heap} {k n : Nat} {f : Addr} {fd : FuncData} {ps : List Str} {D : FD} {oc : Value} {od : Option Addr} {fd' : FuncData} {sl : Array (Option Value)}
    (hn : ps.length = n) (F : FnOk P w K mg base (L2.CX P w) k f fd ps (spD K Z D n)) (hb : Binds K fd ps []) (hl : K.lookup f = some ⟨oc, od, .func fd', sl⟩) : CalOk P w K mg base Z k f (gOf D n) [] := by
  have kin : ∀ {A : Around} {outer : List Env} {s : Shared} {H : Hp}, Env0 P w K mg base A outer s H → K.In s.heap := fun e => e.mod.kin.keeps fun b o z => (e.bs b o z).1
  refine ⟨fun A outer s H e _ => ⟨_, _, _, _, kin e _ _ hl⟩, fun A outer s H us vs Q hr e _ r sp => ?_⟩
  obtain ⟨S, st, args, w0, s0, ra, po⟩ := sp
  have hlen := repL_len ra
  unfold gOf at po
  split at po
  · rename_i hna
    have hu : us.length = ps.length := by rw [← r.length, ← hlen, hna, hn]
    have b := hb s us (kin e) (by rw [List.append_nil]; exact hu)
    rw [List.append_nil] at b
    refine F.run A outer s H ⟨us, []⟩ us vs Q E0 hr e b r ⟨S, st, args.map Arg.val, w0, s0, arsR_vals ra, by rw [← hlen]; exact hna, ?_⟩
    cases ed : D (args.map Arg.val) st with
    | bad => rw [ed] at po; exact po.elim
    | exc c fs st1 => rw [ed] at po; exact po.elim
    | ok rr st1 =>
      rw [ed] at po
      cases rr with
      | val v => exact fun y S' H' e1 w1 s1 q => po y S' H' e1 w1 s1 q
      | own vs => exact po.elim
      | ownd ks vs => exact po.elim
  · exact po.elim
theorem m1_fnG {k n : Nat} {x : Str} {D : FD} {pos : Pos} (zc : ZC X.prog X.w X.K X.mg X.base Z J) (F : Fd X.prog X.w X.K X.mg X.base Z k x n D) (G : Fg X.K X.mg x) (hk : k ≤ J) (hg : Gl X x := by rfl) (hdb : (x == ("__debug__" : Str)) = false := by decide) :
    M1 Z X W (.Name x pos) (fun _ st => .ok (.fnv (gOf D n)) st) := by
  obtain ⟨f, fd, ps, hn, F, hm, hk1, hb⟩ := F.ex
  obtain ⟨f', oc, od, fd', sl, hm', hl⟩ := G.ex
  rw [hm] at hm'
  cases hm'
  refine ⟨_, pe_glob (v := .ref f) hg hm rfl hdb, fun S σ H env st Q r p => ?_⟩
  exact p (.ref f) S H (Ext.refl S H) r.wf r.str ⟨f, [], rfl, zc.to _ _ _ ((cal_def hn F hb hl).mono hk), fun p hp => nomatch hp⟩
end
end Eg

/-! A def handed a lambda, as the last one. -/
namespace Eg
open PySem L2
open NdefX (NTab TabN TabsN CellsAt NScope NF startF ncx envF slotAt)
open LamX (CodeO TabB)
/-- a table of code objects that is known, under one name function -/
structure TabOne (T : List NTab) (P : Addr) (nm : Nat → Nat → Str) : Prop where
  mem : (P, nm) ∈ T
  one : ∀ p ∈ T, p.1 = P → p.2 = nm
def tLam (T : List NTab) (q : Str) (params : Arguments) (body : Expr) (scope : Scope) (cl : List (Str × Addr)) : TE := fun σ H Q => TabsN T H ∧ ∀ (f c' : Addr) (H1 : Hp), (∀ b o, H b = some o → (∀ ps, o ≠ .tbl ps) → H1 b = some o) → (∀ b, H1 b = none → H b = none) → TabsN T H1 → H f = none →
  LamAt H1 f q params body scope cl c' → Q (.ref f) H1
section
variable {Z : Stc} {X : Cx} {W : WX} {J : Nat}
theorem pe_lam {T : List NTab} {nm : Nat → Nat → Str} {c P : Addr} {params : Arguments} {body : Expr} {scope : Scope} {pos : Pos} (TB : TabB X.base X.mg c P) (hcode : X.env.code = .ref c) (to : TabOne T P nm) (hn : nm pos.line pos.col = X.env.qual ++ "<lambda>")
    (hdef : defaultsOf params X.env = ([], [])) (hfree : ∀ y ∈ scope.names, y.2 = .free → X.env.scope.names.lookup y.1 = some .cell ∨ X.env.scope.names.lookup y.1 = some .free) :
    PE X (.Lambda params body scope pos) (tLam T (X.env.qual ++ "<lambda>") params body scope (cloFrom X.env.cells scope.names [])) :=
  ⟨fun pins s σ H Q I h => lam_mk I TB hcode to.mem hn to.one h.1 hdef (fun y hy e => (hfree y hy e).elim (fun z => I.ok.has _ (.inl z)) fun z => I.ok.has _ (.inr z)) fun f c' H1 s' I1 k1 k2 k3 k4 k5 => ⟨.ref f, H1, I1, rfl, h.2 f c' H1 k1 k2 k3 k4 k5⟩⟩
/-- plain ones, then the lambda -/
def rpL (K : PySem.W.Frag) (Z : Stc) (q : Str) (params : Arguments) (body : Expr) (scope : Scope) (cl : List (Str × Addr)) : Hp → Gh → Hp → List Arg → List V → Prop := fun _ S H as xs => ∃ ys f c', xs = ys ++ [.ref f] ∧ ArsR K Z S H as ys ∧ LamAt H f q params body scope cl c'
def MAL (Z : Stc) (X : Cx) (W : WX) (params : Arguments) (body : Expr) (scope : Scope) (es : List Expr) (d : DA) : Prop := ∃ t, PA X es t ∧ Snd X.K Z W (rpL X.K Z (X.env.qual ++ "<lambda>") params body scope (cloFrom X.env.cells scope.names [])) t d
theorem mal_one {nm : Nat → Nat → Str} {c P : Addr} {params : Arguments} {body : Expr} {scope : Scope} {pos : Pos} (TB : TabB X.base X.mg c P) (hcode : X.env.code = .ref c) (to : TabOne Z.T P nm) (hn : nm pos.line pos.col = X.env.qual ++ "<lambda>")
    (hdef : defaultsOf params X.env = ([], [])) (hfree : ∀ y ∈ scope.names, y.2 = .free → X.env.scope.names.lookup y.1 = some .cell ∨ X.env.scope.names.lookup y.1 = some .free)
    (hs : starEach [.Lambda params body scope pos] X.env = (false, eval (.Lambda params body scope pos) X.env) :: starEach [] X.env := by rfl) : MAL Z X W params body scope [.Lambda params body scope pos] (dArgs []) := by
  refine ⟨_, pa_cons (pe_lam TB hcode to hn hdef hfree) pa_nil hs, fun S σ H env st Q r p => ?_⟩
  refine ⟨r.str.tab, fun f c' H1 k1 k2 k3 k4 k5 => ?_⟩
  have ft : ∀ {o : HO}, Frz o → ∀ ps, o ≠ .tbl ps := fun {o} h ps z => by rw [z] at h; exact h
  refine p [.ref f] S H1 ⟨⟨[], by simp⟩, Same.refl _, fun a h => .inl h, fun a o h n => k1 a o h n.nt, fun a h z => h (k2 a z), fun a h => .inl h⟩ ⟨fun a o e => k1 a o (r.wf.same _ _ e) (ft (r.wf.frz _ _ e)), r.wf.frz, fun a m => ?_, r.wf.ng⟩ ⟨k3, r.str.len, r.str.nd, r.str.dl, fun i o e => (r.str.ob i o e).to0 (fun _ q => q) Iff.rfl (fun a u q d h => ?_) fun _ _ q => q⟩ ⟨[], f, c', rfl, by simp only [ArsR], k5⟩
  · obtain ⟨u, e, k⟩ := r.wf.ins a m
    exact ⟨u, k1 _ _ e fun ps z => by rw [z] at k; exact k, k⟩
  · obtain ⟨u', e', k⟩ := r.wf.ins a ⟨i, q, d⟩
    rw [h] at e'
    cases e'
    exact k1 _ _ h fun ps z => by rw [z] at k; exact k
theorem mal_cons {params : Arguments} {body : Expr} {scope : Scope} {e : Expr} {es : List Expr} {d : D1} {ds : List D1} (h : M1 Z X W e d) (h' : MAL Z X W params body scope es (dArgs ds)) (hs : starEach (e :: es) X.env = (false, eval e X.env) :: starEach es X.env := by rfl) : MAL Z X W params body scope (e :: es) (dArgs (d :: ds)) := by
  obtain ⟨t, h1, h2⟩ := h
  obtain ⟨t', h3, h4⟩ := h'
  refine ⟨_, pa_cons h1 h3 hs, snd_pair (RPa := rpAr X.K Z) (RPs := rpL X.K Z (X.env.qual ++ "<lambda>") params body scope (cloFrom X.env.cells scope.names [])) (fun _ _ _ _ _ _ _ w e q => ArR.ext w e q) (fun _ _ _ _ a as x xs q1 q2 => ?_) h2 h4⟩
  obtain ⟨ys, f, c', rfl, z1, z2⟩ := q2
  exact ⟨x :: ys, f, c', rfl, by simp only [ArsR]; exact ⟨x, ys, rfl, q1, z1⟩, z2⟩
/-! ### a call with its own road -/
theorem pe_callG {x : Str} {f : Addr} {e : Expr} {es : List Expr} {t : TA} {T : L2.St → List V → Hp → VK → Prop} {p pos : Pos} (hg : Gl X x) (hm : X.mg x = some (.ref f)) (hk : PySem.W.keepIn X.K (.ref f) = true) (ha : PA X (e :: es) t)
    (run : ∀ (pins : List (Addr × Obj)) (σ : L2.St) (H : Hp) (s : Shared) (us : List Value) (vs : List V) (Q : VK), L2.Inv X pins σ H s → Vals vs us → T σ vs H Q → wpAny (model X.prog X.w) X.A (call (.ref f) us) (EP X pins σ Q) X.xe s)
    (hdb : (x == ("__debug__" : Str)) = false := by decide) (he : starEach (e :: es) X.env = (false, eval e X.env) :: starEach es X.env := by rfl) (hpl : (backTo pos (starEach es X.env)).any (·.1) = false := by rfl) :
    PE X (.Call (.Name x p) (e :: es) [] pos) (fun σ H Q => t σ H fun vs H1 => T σ vs H1 Q) := by
  refine ⟨fun pins s σ H Q I h => ?_⟩
  refine wpAny_Call_Name_kw (ld_glob I hg hm ?_ hdb)
  exact PySem.W.callWith_K (h₀ := X.base) I.ok.mod.kin hk (thn (ha.run pos pins s σ H _ I h) fun us s1 ⟨vs, H1, I1, r, q⟩ => ⟨I1.kIn, run pins σ H1 s1 us vs Q I1 r q⟩) he hpl
/-! ### the cells' objects -/
def cellC (cl : List (Str × Addr)) (h : Heap) : Cl0 := cl.filterMap fun p => if cl.lookup p.1 = some p.2 then some (p.2, (h.get? p.2).getD { cls := .none }) else none
theorem lookA_all {F : Addr → Obj} {a : Addr} {o : Obj} (l : Cl0) : (∀ p ∈ l, p.2 = F p.1) → (a, o) ∈ l → l.lookup a = some o := by
  induction l with
  | nil => exact fun _ m => by cases m
  | cons q r ih =>
    obtain ⟨b, v⟩ := q
    intro hF m
    have e0 : o = F a := hF (a, o) m
    have eb : v = F b := hF (b, v) List.mem_cons_self
    by_cases z : a = b
    · subst z
      rw [List.lookup_cons_self, eb, e0]
    · have z' : (a == b) = false := beq_eq_false_iff_ne.mpr z
      rw [List.lookup_cons, z']
      rcases List.mem_cons.mp m with h | h
      · cases h
        exact absurd rfl z
      · exact ih (fun p hp => hF p (List.mem_cons_of_mem _ hp)) h
theorem cellC_mem {cl : List (Str × Addr)} {h : Heap} {a : Addr} {o : Obj} (m : (a, o) ∈ cellC cl h) : (∃ y, cl.lookup y = some a) ∧ o = (h.get? a).getD { cls := .none } := by
  unfold cellC at m
  obtain ⟨⟨y, b⟩, m1, e⟩ := List.mem_filterMap.mp m
  dsimp only at e
  split at e
  · rename_i z
    cases e
    exact ⟨⟨y, z⟩, rfl⟩
  · cases e
theorem cellC_self {cl : List (Str × Addr)} {h : Heap} : ∀ p ∈ cellC cl h, (cellC cl h).lookup p.1 = some p.2 := fun p hp =>
  lookA_all (F := fun a => (h.get? a).getD { cls := .none }) _ (fun p hp => (cellC_mem (a := p.1) (o := p.2) hp).2) hp
theorem cellC_at {cl : List (Str × Addr)} {h : Heap} {y : Str} {c : Addr} (e : cl.lookup y = some c) : (cellC cl h).lookup c = some ((h.get? c).getD { cls := .none }) := by
  refine lookA_all (F := fun a => (h.get? a).getD { cls := .none }) _ (fun p hp => (cellC_mem (a := p.1) (o := p.2) hp).2) ?_
  unfold cellC
  exact List.mem_filterMap.mpr ⟨(y, c), PySem.mem_of_lookup e, by rw [if_pos e]⟩
theorem cloF_of {cl : List (Str × Addr)} {fr : List Str} {ws : List (Option V)} {h : Heap} {H : Hp} (c : CellsAt cl fr ws h H) : CloF (cellC cl h) cl fr ws := by
  refine ⟨c.len, fun y a e => ?_, c.inj, fun i y e => ?_⟩
  · obtain ⟨_, v, o, z1, z2⟩ := c.all y a e
    exact ⟨o, v, by rw [cellC_at e, z1] <;> rfl, z2⟩
  · obtain ⟨a, z1, z2⟩ := c.has i y e
    obtain ⟨_, v, o, z3, z4⟩ := c.all y a z1
    refine ⟨a, o, z1, by rw [cellC_at z1, z3] <;> rfl, fun v ev => ?_⟩
    obtain ⟨u, r, o', z5, z6⟩ := z2 v ev
    rw [z3] at z5
    cases z5
    exact ⟨u, r, z6⟩
theorem cell_facts {pins : List (Addr × Obj)} {σ : L2.St} {H : Hp} {s : Shared} (I : L2.Inv X pins σ H s) (hfn : ∀ y, X.fn y = true) {cl : List (Str × Addr)} (sub : ∀ y c, cl.lookup y = some c → X.env.cells.lookup y = some c) :
    Free (cellC cl s.heap) H ∧ (∀ a o, (cellC cl s.heap).lookup a = some o → s.heap.get? a = some o) ∧ ∀ a o, (cellC cl s.heap).lookup a = some o → X.base.get? a = none ∧ a ∉ frs X.stack := by
  have key : ∀ {a o}, (cellC cl s.heap).lookup a = some o → ∃ y, X.env.cells.lookup y = some a ∧ o = (s.heap.get? a).getD { cls := .none } := fun {a o} e => by
    obtain ⟨⟨y, z⟩, e2⟩ := cellC_mem (mem_lookA e)
    exact ⟨y, sub y a z, e2⟩
  refine ⟨fun a o e => ?_, fun a o e => ?_, fun a o e => ?_⟩
  · obtain ⟨y, z, _⟩ := key e
    exact I.freeC y a z
  · obtain ⟨y, z, e2⟩ := key e
    obtain ⟨v, o', z1, _⟩ := I.cell y a z
    rw [e2, z1] <;> rfl
  · obtain ⟨y, z, _⟩ := key e
    have ab := I.ok.cab y a (hfn y) z
    refine ⟨?_, fun m => ?_⟩
    · cases q : X.base.get? a with
      | none => rfl
      | some u => exact absurd (Heap.lt_size (I.ok.bs a u q).1) (Nat.not_lt.mpr ab)
    · rcases List.mem_cons.mp (I.stkSub a m) with e | e
      · exact I.cne y a z e
      · obtain ⟨_, o', z1, _⟩ := I.ok.funs.mem e
        exact absurd (Heap.lt_size z1) (Nat.not_lt.mpr ab)
/-! ### the call -/
def capE (js : List Nat) (env : Evn) : List (Option Slot) := js.map fun j => match env[j]? with
  | some (some (Slot.val v)) => if flat v = true then some (Slot.val v) else none
  | _ => none
theorem capt_of {K : PySem.W.Frag} {S : Gh} {σ : L2.St} {H : Hp} {env : Evn} {st : Store} (r : SR K Z S σ H env st) (js : List Nat) : Capt K Z (capE js env) (js.map (slotAt σ)) := by
  refine ⟨by unfold capE; simp, fun i sl e => ?_⟩
  unfold capE at e
  rw [List.getElem?_map] at e
  cases ej : js[i]? with
  | none => rw [ej] at e; cases e
  | some j =>
    rw [ej] at e
    dsimp only [Option.map_some] at e
    split at e
    · rename_i v ev
      split at e
      · rename_i hf
        cases e
        obtain ⟨x, z1, z2⟩ := r.sl j _ ev
        exact ⟨v, x, rfl, by rw [List.getElem?_map, ej]; exact congrArg some (NdefX.slotAt_of z1), fun S' => flat_any hf z2⟩
      · cases e
    · cases e
def dCallL (D : FD) (n : Nat) (ds : List D1) (nN np : Nat) (js : List Nat) (db : DE) : DE := fun env st => (dArgs ds env st).bind fun args st1 => if args.length + 1 = n then (D (args ++ [.fnv (gLam nN np (capE js env) db)]) st1).calm else .bad
def tCallL (K : PySem.W.Frag) (Z : Stc) (D : FD) (n : Nat) (cl : List (Str × Addr)) (fr : List Str) (js : List Nat) : L2.St → List V → Hp → VK → Prop := fun σ vs H Q => ∀ C : Cl0, Free C H → (∀ p ∈ C, C.lookup p.1 = some p.2) → CloF C cl fr (js.map (slotAt σ)) → spD K Z D n vs (sealH C H) (fun v H2 => Q v (openH C H2)) E0
theorem me_callL {k k' n : Nat} {x : Str} {D : FD} {e : Expr} {es : List Expr} {ds : List D1} {p pos : Pos} {params : Arguments} {body : Expr} {scope : Scope} {N ps fr : List Str} {js : List Nat} {db : DE} (F : Fd X.prog X.w X.K X.mg X.base Z k x n D) (hr : Room k X.A)
    (zc : ZC X.prog X.w X.K X.mg X.base Z J) (hJ : k' + 1 ≤ J) (hfn : ∀ y, X.fn y = true) (ha : MAL Z X W params body scope (e :: es) (dArgs ds)) (S : NScope N ps fr scope) (hnd : NdefX.ndefB X.env.scope scope fr = true) (hjs : js.map (fun j => X.N[j]?) = fr.map some)
    (hb : ∀ (cl : List (Str × Addr)) (c' : Addr) (pm ctv : Value) (us : List Value), us.length = ps.length → bindArgs (PySem.W.kla_fn "<lambda>" (X.env.qual ++ "<lambda>") params body scope cl pm (.ref c') ctv) ⟨us, []⟩ = pure (ps.zip us))
    (hbody : ∀ (cl : List (Str × Addr)) (c' f : Addr) (A : Around) (outer : List Env) (s : Shared) (H : Hp), Room k' (ncx (L2.CX X.prog X.w) X.prog X.w X.K X.mg X.base N (lamF (X.env.qual ++ "<lambda>") params scope cl c') f A outer s H E0).A → ME Z (ncx (L2.CX X.prog X.w) X.prog X.w X.K X.mg X.base N (lamF (X.env.qual ++ "<lambda>") params scope cl c') f A outer s H E0) W0 body db)
    (hg : Gl X x := by rfl) (hdb : (x == ("__debug__" : Str)) = false := by decide) (he : starEach (e :: es) X.env = (false, eval e X.env) :: starEach es X.env := by rfl) (hpl : (backTo pos (starEach es X.env)).any (·.1) = false := by rfl) :
    ME Z X W (.Call (.Name x p) (e :: es) [] pos) (dCallL D n ds N.length ps.length js db) := by
  obtain ⟨f, fd, ps', hn, F, hm, hk, hbd⟩ := F.ex
  obtain ⟨t, h1, h2⟩ := ha
  have caps : X.Ok → NdefX.Caps X (cloFrom X.env.cells scope.names []) fr js := fun ok => NdefX.Caps.made ok (NdefX.ndef_free hnd) (NdefX.ndef_fr hnd) hjs
  refine ⟨_, pe_callG (T := tCallL X.K Z D n (cloFrom X.env.cells scope.names []) fr js) hg hm hk h1 (fun pins σ H s us vs Q I r h => ?_) hdb he hpl, fun S0 σ H env st Q r po => ?_⟩
  · have cp := caps I.ok
    obtain ⟨f1, f2, f3⟩ := cell_facts I hfn (cl := cloFrom X.env.cells scope.names []) cp.sub
    have sp := h (cellC (cloFrom X.env.cells scope.names []) s.heap) f1 cellC_self (cloF_of (NdefX.cells_of I cp))
    have hl : us.length = ps'.length := by rw [← r.length]; exact F.len _ _ _ _ sp
    have b := hbd s us I.kIn (by rw [List.append_nil]; exact hl)
    rw [List.append_nil] at b
    refine wpAny_call (codeAny_mono (F.run X.A X.stack s _ ⟨us, []⟩ us vs _ E0 hr (env0_seal I.env0 f1 f2 f3) b r sp) fun rr s' hq => ?_)
    cases rr with
    | error e => 
      obtain ⟨_, _, _, _, _, _, _, _, _, _, _, _, z⟩ := (show L2.CX X.prog X.w X.stack _ s E0 e s' from hq)
      exact z.elim
    | ok fl =>
      cases fl with
      | ret u => exact I.after (ce_open f1 (fun a o z => (f3 a o z).2) f2 hq)
      | next => exact hq.elim
      | brk => exact hq.elim
      | cont => exact hq.elim
  · unfold dCallL at po
    refine h2 S0 σ H env st _ r ?_
    cases ea : dArgs ds env st with
    | bad => rw [ea] at po; exact po.elim
    | exc c fs st1 => rw [ea] at po; exact po
    | ok args st1 =>
      rw [ea] at po
      intro xs S1 H1 e1 w1 s1 q1
      obtain ⟨ys, lf, c', rfl, qa, qL⟩ := q1
      intro C fC sC cf
      have r1 := r.ext e1 w1 s1
      have po : Post X.K Z S0 H (rpE X.K Z H) Q (fun c dd H' => W c dd σ H') (if args.length + 1 = n then (D (args ++ [.fnv (gLam N.length ps.length (capE js env) db)]) st1).calm else .bad) := po
      split at po
      · rename_i hna
        have CO' := cal_lam (Z := Z) (q := X.env.qual ++ "<lambda>") (params := params) (f := lf) (c' := c') S (hb _ _) cf (capt_of r1 js) fun A outer s H hr => hbody _ _ _ A outer s H hr
        refine ⟨S1, st1, args ++ [.fnv (gLam N.length ps.length (capE js env) db)], wf_seal w1 fC, str_seal s1 fC, ars_snoc (a := .fnv (gLam N.length ps.length (capE js env) db)) (ars_seal fC qa) (show FnvR Z (sealH C H1) (gLam N.length ps.length (capE js env) db) (.ref lf) from ⟨lf, _, rfl, zc.to _ _ _ (CO'.mono hJ), fun p hp => ?_⟩), ?_, ?_⟩
        · unfold lamB at hp
          rcases List.mem_cons.mp hp with rfl | hp
          · exact ⟨trivial, same_seal fC _ _ qL.fn⟩
          · rcases List.mem_cons.mp hp with rfl | hp
            · exact ⟨trivial, same_seal fC _ _ qL.cd⟩
            · obtain ⟨p', hp', rfl⟩ := List.mem_map.mp hp
              exact ⟨trivial, seal_in (sC p' hp')⟩
        · rw [List.length_append, ← ArsR.length qa]
          exact hna
        · cases ed : D (args ++ [.fnv (gLam N.length ps.length (capE js env) db)]) st1 with
          | bad => rw [ed] at po; exact po.elim
          | exc c fs st2 => rw [ed] at po; exact po.elim
          | ok rr st2 =>
            rw [ed] at po
            have po2 : Post X.K Z S1 H1 (fun S' H' r x => RR X.K Z S' H1 H' r x) Q (fun _ _ _ => False) (.ok rr st2) := fun y S' H' e2 w2 s2 q2 => po y S' H' (e1.trans e2) w2 s2 (RR.back q2 e1.live)
            exact post_seal (wf_seal w1 fC) fC (fun S' H2 a y t w q => rr_open fC t q) po2
      · exact po.elim
end
end Eg

/-! A def that makes functions: its code object is known. The end of a law with tables of code objects. -/
namespace Eg
open PySem L2
open NdefX (NTab TabN TabsN)
open LamX (TabB)
section
variable {Z : Stc}
theorem den_run {X : Cx} {N : List Str} {n : Nat} {E : XK} {body : List Stmt} {b : DS} {vs : List V} {H : Hp} {Q : VK} (hb : MSs Z X (fun cls d _ H => E cls d H) body b) (h : spD X.K Z (dFun N.length b) n vs H Q E) :
    ∃ t, PSs X body t ∧ t { nx := fun _ H' => Q .non H', rt := Q } (L2.start N vs) H := by
  obtain ⟨S0, st0, args, w0, s0, ar, hl, po⟩ := h
  obtain ⟨t, h1, h2⟩ := hb
  refine ⟨t, h1, ?_⟩
  have hargs : args.length = vs.length := ArsR.length ar
  refine h2 S0 _ H (args.map (fun a => some a.slot) ++ List.replicate (N.length - args.length) none) st0 _ ⟨w0, s0, ?_, fun i s e => ?_, fun i j si sj l nij e1 o1 e2 a2 q1 q2 => ?_⟩ ?_
  · unfold L2.start
    simp [hargs]
  · obtain ⟨a, ea, es⟩ := start_get e
    obtain ⟨y, e1, e2⟩ := argsR_get ar ea
    refine ⟨y, ?_, ?_⟩
    · unfold L2.start
      have hi : i < vs.length := (List.getElem?_eq_some_iff.mp e1).1
      rw [List.getElem?_append_left (by simpa using hi), List.getElem?_map, e1]
      rfl
    · rw [← es]
      cases a <;> exact e2
  · obtain ⟨a, ea, es⟩ := start_get e1
    rw [← es] at o1
    cases a <;> cases o1
  · simp only [dFun, finO] at po
    cases eb : b (args.map (fun a => some a.slot) ++ List.replicate (N.length - args.length) none) st0 with
    | bad => simp only [eb, Post] at po
    | bk env' st' => simp only [eb, Post] at po
    | ct env' st' => simp only [eb, Post] at po
    | nx env' st' =>
      simp only [eb, Post] at po
      intro S' σ' H' e r
      have no : ∀ a, ¬ OwnA (args.map (fun a => some a.slot) ++ List.replicate (N.length - args.length) none) (L2.start N vs) a := fun a ⟨i, s, e1, o1, _⟩ => by
        obtain ⟨a, ea, es⟩ := start_get e1
        rw [← es] at o1
        cases a <;> cases o1
      exact po .non S' H' ⟨e.pre, e.sg, fun a h => (e.fresh a h).elim .inl fun z => z.elim .inr fun z => absurd z (no a), fun a o h n => e.frame a o h n (no a), e.live, e.rfresh⟩ r.wf r.str (by simp only [RR, Rep])
    | rt rr st' =>
      simp only [eb, Post] at po
      intro x S' H' e w' s' q
      have no : ∀ a, ¬ OwnA (args.map (fun a => some a.slot) ++ List.replicate (N.length - args.length) none) (L2.start N vs) a := fun a ⟨i, s, e1, o1, _⟩ => by
        obtain ⟨a, ea, es⟩ := start_get e1
        rw [← es] at o1
        cases a <;> cases o1
      refine po x S' H' ⟨e.pre, e.sg, fun a h => (e.fresh a h).elim .inl fun z => z.elim .inr fun z => absurd z (no a), fun a o h n => e.frame a o h n (no a), e.live, e.rfresh⟩ w' s' ?_
      cases rr with
      | val v => exact q
      | own vs =>
        obtain ⟨l, xs, e1, e2, e3, e4, e5⟩ := q
        exact ⟨l, xs, e1, e2, e3, e4.elim id fun z => absurd z (no l), e5⟩
      | ownd ks vs =>
        obtain ⟨l, xs, e1, e2, e3, e4, e5⟩ := q
        exact ⟨l, xs, e1, e2, e3, e4.elim id fun z => absurd z (no l), e5⟩
    | exc c fs env' st' =>
      simp only [eb, Post] at po
      intro cls d S' σ' H' e r xr
      have no : ∀ a, ¬ OwnA (args.map (fun a => some a.slot) ++ List.replicate (N.length - args.length) none) (L2.start N vs) a := fun a ⟨i, s, e1, o1, _⟩ => by
        obtain ⟨a, ea, es⟩ := start_get e1
        rw [← es] at o1
        cases a <;> cases o1
      exact po cls d S' H' ⟨e.pre, e.sg, fun a h => (e.fresh a h).elim .inl fun z => z.elim .inr fun z => absurd z (no a), fun a o h n => e.frame a o h n (no a), e.live, e.rfresh⟩ r.wf r.str xr

theorem fun_denT {P : Program} {w : World} {K : PySem.W.Frag} {mg : Str → Option Value} {base : Heap} {x qual : Str} {st : Stmt} {f c : Addr} {fd : FuncData} {N ps : List Str} {k : Nat} {b : DS} (F : Fun K x qual st f fd) (hc : fd.code = .ref c) (S : FnScope N ps (defScope st))
    (hbody : ∀ (cdv : Value) (A : Around) (outer : List Env) (s : Shared) (H : Hp) (E : XK), cdv = .ref c → Room k (cxOf (L2.CX P w) P w K mg base N qual (defScope st) f cdv A outer s H E).A →
      PassesOwn (model P w) (cxOf (L2.CX P w) P w K mg base N qual (defScope st) f cdv A outer s H E).A (cxOf (L2.CX P w) P w K mg base N qual (defScope st) f cdv A outer s H E).env (cxOf (L2.CX P w) P w K mg base N qual (defScope st) f cdv A outer s H E).xe →
      Takes (cxOf (L2.CX P w) P w K mg base N qual (defScope st) f cdv A outer s H E) (fun cls d _ H => E cls d H) → MSs Z (cxOf (L2.CX P w) P w K mg base N qual (defScope st) f cdv A outer s H E) (fun cls d _ H => E cls d H) (defBody st) b) : FnOk P w K mg base (L2.CX P w) (k + 1) f fd ps (spD K Z (dFun N.length b) ps.length) := by
  obtain ⟨oc, od, kV, doc, pm, an, cdv, ct, osl, rfl, lk, hcd⟩ := F.ex
  refine fn_of lk hcd S (fun vs H Q E h => ?_) fun A outer s H vs Q E hr h => den_run (hbody cdv A outer s H E hc hr (passes_of rfl) (takes_of rfl rfl rfl rfl)) h
  obtain ⟨_, _, _, _, _, _, hl, _⟩ := h
  exact hl
end
/-! ### the end -/
theorem tabs_new {T : List NTab} {H : Hp} (h : ∀ p ∈ T, H p.1 = some (.tbl #[])) : TabsN T H := fun p hp => TabN.nil (h p hp)
/-- a code object's table; a function's code object; the module's x, a class's x -/
def tabAt (K : PySem.W.Frag) (c : Addr) : Addr := match K.lookup c with
  | some ⟨_, _, .fields vs, _⟩ => (match vs.getD 11 .none with
    | .ref P => P
    | _ => 0)
  | _ => 0
theorem nd_sc {sc sc' nsc : Scope} {fr : List Str} (h : NdefX.ndefB sc nsc fr = true) (e : sc' = sc := by rfl) : NdefX.ndefB sc' nsc fr = true := by rw [e]; exact h
theorem tabOne_one {P : Addr} {nm : Nat → Nat → Str} : TabOne [(P, nm)] P nm := ⟨List.mem_cons_self, fun p hp _ => by rw [List.mem_singleton.mp hp]⟩
theorem tabOne_of {T : List NTab} {P : Addr} {nm : Nat → Nat → Str} (nd : (T.map (·.1)).Nodup) (h : (P, nm) ∈ T) : TabOne T P nm := ⟨h, fun p hp e => by
  induction T with
  | nil => cases h
  | cons q r ih =>
    obtain ⟨n1, n2⟩ := List.nodup_cons.mp nd
    rcases List.mem_cons.mp h with h1 | h1
    · rcases List.mem_cons.mp hp with h2 | h2
      · rw [h2, ← h1]
      · exact absurd (List.mem_map.mpr ⟨p, h2, by rw [e, ← h1]⟩) n1
    · rcases List.mem_cons.mp hp with h2 | h2
      · exact absurd (List.mem_map.mpr ⟨_, h1, by rw [← h2]; exact e.symm⟩) n1
      · exact ih n2 h1 h2⟩
theorem all_1 {p : Addr × Addr → Prop} {a : Addr × Addr} (h : p a) : ∀ x ∈ [a], p x := fun x m => by rw [List.mem_singleton.mp m]; exact h
theorem all_2 {p : Addr × Addr → Prop} {a b : Addr × Addr} (h : p a) (h2 : p b) : ∀ x ∈ [a, b], p x := fun x m => by
  rcases List.mem_cons.mp m with rfl | m
  · exact h
  · exact all_1 h2 x m
theorem all_3 {p : Addr × Addr → Prop} {a b c : Addr × Addr} (h : p a) (h2 : p b) (h3 : p c) : ∀ x ∈ [a, b, c], p x := fun x m => by
  rcases List.mem_cons.mp m with rfl | m
  · exact h
  · exact all_2 h2 h3 x m
theorem all_4 {p : Addr × Addr → Prop} {a b c d : Addr × Addr} (h : p a) (h2 : p b) (h3 : p c) (h4 : p d) : ∀ x ∈ [a, b, c, d], p x := fun x m => by
  rcases List.mem_cons.mp m with rfl | m
  · exact h
  · exact all_3 h2 h3 h4 x m
/-- the law's promise over tables; cs: code objects and their tables -/
theorem lawAt_of {l : PySem.W.OpenLaw} {w : World} {K : PySem.W.Frag} {k : Nat} {x : Str} {mg : Str → Option Value} {fa : Addr} {h : Heap} {T : List NTab} {cs : List (Addr × Addr)} {D : FD}
    (hT : ∀ p ∈ cs, h.get? p.2 = some { cls := .none, data := .fields #[] }) (hn : ∀ p ∈ cs, K.lookup p.2 = none) (hc : ∀ p ∈ cs, PySem.W.CodeHd h p.1 p.2) (hTc : ∀ t ∈ T, ∃ p ∈ cs, p.2 = t.1)
    (F : ∃ fd : FuncData, (∀ (s : Shared) (u : Value), BindsTo s fd ⟨[u], []⟩ [(x, u)]) ∧ ∀ base : Heap, K.In base → base.Ns mainGlobals mg → (∀ p ∈ cs, TabB base mg p.1 p.2) → FnOk l.prog w K mg base (L2.CX l.prog w) k fa fd [x] (spA K D 1 T))
    (hD : ∀ ns : List Int, ns.length ≤ 63 → (∀ z ∈ ns, Builtin.Int.intBits z ≤ 1048576) → ∃ st, D [.val (.slst (ns.map Val.int))] [] = .ok (.val (.bl true)) st) : LamX.LawAtS l w K (L2.CX l.prog w) k 63 x mg fa h := by
  obtain ⟨fd, hb, hF⟩ := F
  exact ⟨fd, cs, spA K D 1 T, hT, hn, hc, hb, fun H a ns hl hbt hH hS => law_spT (tabs_new fun t ht => by
    obtain ⟨p, hp, e⟩ := hTc t ht
    rw [← e]
    exact hH p hp) hS (hD ns hl hbt), hF⟩
end Eg

/-! Rows end to end. -/
namespace Eg
open PySem L2
/-- rows end to end, from a place on without end -/
def Til : OI → List Rw → Prop
  | _, [] => False
  | c, r :: rs => r.1 = c ∧ match r.2.1 with
    | none => rs = []
    | some b => (∀ a, c = some a → a < b) ∧ Til (some b) rs
/-- what the first row tells that ends behind the place -/
def tv : List Rw → Int → OI
  | [], _ => none
  | r :: rs, p => match r.2.1 with
    | none => r.2.2
    | some b => if p < b then r.2.2 else tv rs p
theorem til_from : ∀ {rows : List Rw} {c : OI}, Til c rows → ∀ r ∈ rows, ∀ a, c = some a → ∃ l, r.1 = some l ∧ a ≤ l
  | [], _, h => h.elim
  | r :: rs, c, h => by
    obtain ⟨h1, h2⟩ := h
    intro x m a ea
    rcases List.mem_cons.mp m with rfl | m
    · exact ⟨a, by rw [h1, ea], Int.le_refl a⟩
    · cases e : r.2.1 with
      | none => rw [e] at h2; subst h2; cases m
      | some b =>
        rw [e] at h2
        obtain ⟨l, z1, z2⟩ := til_from h2.2 x m b rfl
        have := h2.1 a ea
        exact ⟨l, z1, by omega⟩
theorem til_ord : ∀ {rows : List Rw} {c : OI}, Til c rows → OrdR rows
  | [], _, h => h.elim
  | r :: rs, c, h => by
    obtain ⟨h1, h2⟩ := h
    cases e : r.2.1 with
    | none =>
      rw [e] at h2
      subst h2
      refine ⟨List.pairwise_singleton _ _, fun x m => ?_⟩
      rw [List.mem_singleton.mp m, e]
      exact spO_none_r _
    | some b =>
      rw [e] at h2
      obtain ⟨o1, o2⟩ := til_ord h2.2
      refine ⟨List.pairwise_cons.mpr ⟨fun x m => ?_, o1⟩, fun x m => ?_⟩
      · obtain ⟨l, z1, z2⟩ := til_from h2.2 x m b rfl
        rw [e, z1]
        exact z2
      · rcases List.mem_cons.mp m with rfl | m
        · rw [e, h1]
          cases c with
          | none => exact spO_none_l _
          | some a => exact h2.1 a rfl
        · exact o2 x m
theorem til_cov : ∀ {rows : List Rw} {c : OI}, Til c rows → ∀ p, (∀ a, c = some a → a ≤ p) → rows.any (fun r => inS r.1 r.2.1 p) = true
  | [], _, h => h.elim
  | r :: rs, c, h => by
    obtain ⟨h1, h2⟩ := h
    intro p hp
    rw [List.any_cons]
    cases e : r.2.1 with
    | none =>
      rw [h1]
      cases c with
      | none => simp
      | some a => simp [hp a rfl]
    | some b =>
      rw [e] at h2
      by_cases c1 : p < b
      · rw [h1]
        cases c with
        | none => simp [c1]
        | some a => simp [c1, hp a rfl]
      · rw [til_cov h2.2 p (fun a ea => by cases ea; omega)]
        simp
theorem til_val : ∀ {rows : List Rw} {c : OI}, Til c rows → ∀ p, (∀ a, c = some a → a ≤ p) → val rows p = tv rows p
  | [], _, h => h.elim
  | r :: rs, c, h => by
    obtain ⟨h1, h2⟩ := h
    intro p hp
    rw [val_cons_any]
    unfold tv
    cases e : r.2.1 with
    | none =>
      rw [e] at h2
      subst h2
      rw [h1]
      cases c with
      | none => simp
      | some a => simp [hp a rfl]
    | some b =>
      rw [e] at h2
      dsimp only
      by_cases c1 : p < b
      · have n : rs.any (fun r => inS r.1 r.2.1 p) = false := List.any_eq_false.mpr fun x m => by
          obtain ⟨l, z1, z2⟩ := til_from h2.2 x m b rfl
          have : ¬ l ≤ p := by omega
          rw [z1]
          cases x.2.1 <;> simp [this]
        rw [n, if_pos c1, h1]
        cases c with
        | none => simp [c1]
        | some a => simp [c1, hp a rfl]
      · have hb : ∀ a, some b = some a → a ≤ p := fun a ea => by cases ea; omega
        rw [til_cov h2.2 p hb, if_pos rfl, til_val h2.2 p hb, if_neg c1]
/-- each value turned -/
def turnR (G : OI → OI) (rows : List Rw) : List Rw := rows.map fun r => (r.1, r.2.1, G r.2.2)
theorem til_turn (G : OI → OI) : ∀ {rows : List Rw} {c : OI}, Til c rows → Til c (turnR G rows) ∧ ∀ p, tv (turnR G rows) p = G (tv rows p)
  | [], _, h => h.elim
  | r :: rs, c, h => by
    obtain ⟨h1, h2⟩ := h
    cases e : r.2.1 with
    | none =>
      rw [e] at h2
      subst h2
      exact ⟨⟨h1, by simp [e]⟩, fun p => by simp [turnR, tv, e]⟩
    | some b =>
      rw [e] at h2
      obtain ⟨z1, z2⟩ := til_turn G h2.2
      refine ⟨⟨h1, by simp only [e]; exact ⟨h2.1, z1⟩⟩, fun p => ?_⟩
      have := z2 p
      simp only [turnR, List.map_cons, tv, e] at this ⊢
      split
      · rfl
      · exact this
theorem til_knit {rows : List Rw} (h : Til none rows) : WF (knitM rows) ∧ ∀ p, vl (knitM rows) p = tv rows p := by
  obtain ⟨h1, h2⟩ := knit_ok (til_ord h)
  exact ⟨h1, fun p => by rw [h2 p, til_val h p (fun a e => by cases e)]⟩
/-! ### a map's whole line -/
def gapR (b : Bool) (c l : OI) : List Rw := match l with
  | none => []
  | some l => if b = true then [(c, some l, none)] else match c with
    | some a => if a < l then [(c, some l, none)] else []
    | none => []
def endR (b : Bool) (c : OI) : List Rw := if b = true ∨ c ≠ none then [(c, none, none)] else []
def wh : Bool → OI → List Pc → List Rw
  | b, c, [] => endR b c
  | b, c, r :: m => gapR b c r.1 ++ rwOf r :: wh false r.2.1 m
def wholeM (m : List Pc) : List Rw := wh true none m
theorem wh_len : ∀ (m : List Pc) (b : Bool) (c : OI), (wh b c m).length ≤ 2 * m.length + 1
  | [], b, c => by
    unfold wh endR
    split <;> simp
  | r :: m, b, c => by
    have := wh_len m false r.2.1
    have g : (gapR b c r.1).length ≤ 1 := by
      unfold gapR
      repeat' split
      all_goals simp
    unfold wh
    simp
    omega
theorem wh_til : ∀ {m : List Pc} {b : Bool} {c : OI}, WF m → (b = true ∧ c = none ∨ b = false ∧ ∃ a, c = some a ∧ ∀ r ∈ m, leO (some a) r.1) →
    Til c (wh b c m) ∧ ∀ p, (∀ a, c = some a → a ≤ p) → tv (wh b c m) p = vl m p
  | [], b, c, _, h => by
    have e : wh b c [] = [(c, none, none)] := by
      unfold wh endR
      rcases h with ⟨rfl, rfl⟩ | ⟨rfl, a, rfl, _⟩ <;> simp
    rw [e]
    exact ⟨⟨rfl, rfl⟩, fun p _ => rfl⟩
  | r :: m, b, c, w, h => by
    obtain ⟨h1, h2, h3⟩ := wf_cons.mp w
    obtain ⟨lo, hi, v⟩ := r
    -- behind the piece
    have beh : (hi = none ∧ m = []) ∨ ∃ x, hi = some x ∧ Til (some x) (wh false hi m) ∧ ∀ p, x ≤ p → tv (wh false hi m) p = vl m p := by
      cases hi with
      | none =>
        left
        refine ⟨rfl, ?_⟩
        cases m with
        | nil => rfl
        | cons s m => exact ((h1 s List.mem_cons_self).le).elim
      | some x =>
        right
        obtain ⟨z1, z2⟩ := wh_til (m := m) (b := false) (c := some x) h3 (.inr ⟨rfl, x, rfl, fun s hs => (h1 s hs).le⟩)
        exact ⟨x, rfl, z1, fun p hp => z2 p fun a e => by cases e; exact hp⟩
    -- from the piece on
    have self : Til lo (rwOf (lo, hi, v) :: wh false hi m) ∧ ∀ p, (∀ a, lo = some a → a ≤ p) → tv (rwOf (lo, hi, v) :: wh false hi m) p = vl ((lo, hi, v) :: m) p := by
      rcases beh with ⟨rfl, rfl⟩ | ⟨x, rfl, z1, z2⟩
      · refine ⟨⟨rfl, by simp [rwOf, wh, endR]⟩, fun p hp => ?_⟩
        rw [vl_cons w]
        have : inS lo none p = true := by
          cases lo with
          | none => rfl
          | some a => simp [hp a rfl]
        simp [this, tv, rwOf]
      · refine ⟨⟨rfl, ⟨fun a e => ?_, z1⟩⟩, fun p hp => ?_⟩
        · have e : lo = some a := e
          subst e
          exact h2
        · rw [vl_cons w]
          by_cases c1 : p < x
          · have : inS lo (some x) p = true := by
              cases lo with
              | none => simp [c1]
              | some a => simp [hp a rfl, c1]
            simp [this, tv, rwOf, c1]
          · have : inS lo (some x) p = false := by
              cases lo <;> simp [c1]
            simp [this, tv, rwOf, c1, z2 p (by omega)]
    have un : wh b c ((lo, hi, v) :: m) = gapR b c lo ++ rwOf (lo, hi, v) :: wh false hi m := rfl
    rw [un]
    have gap : ∀ l, lo = some l → (∀ a, c = some a → a < l) → Til c ((c, some l, none) :: rwOf (lo, hi, v) :: wh false hi m) ∧ ∀ p, (∀ a, c = some a → a ≤ p) → tv ((c, some l, none) :: rwOf (lo, hi, v) :: wh false hi m) p = vl ((lo, hi, v) :: m) p := by
      rintro l rfl hl
      refine ⟨⟨rfl, hl, self.1⟩, fun p hp => ?_⟩
      by_cases c1 : p < l
      · rw [vl_before w (by simp [bgn]; omega)]
        simp [tv, c1]
      · rw [← self.2 p (fun a e => by cases e; omega)]
        simp [tv, c1]
    rcases h with ⟨rfl, rfl⟩ | ⟨rfl, a, rfl, ha⟩
    · cases lo with
      | none => exact self
      | some l => exact gap l rfl fun a e => by cases e
    · have hl := ha _ List.mem_cons_self
      cases lo with
      | none => exact hl.elim
      | some l =>
        have hl : a ≤ l := hl
        by_cases c1 : a < l
        · simpa [gapR, c1] using gap l rfl fun x e => by cases e; exact c1
        · have : a = l := by omega
          subst this
          simpa [gapR] using self
theorem whole_til {m : List Pc} (w : WF m) : Til none (wholeM m) ∧ ∀ p, tv (wholeM m) p = vl m p := by
  obtain ⟨h1, h2⟩ := wh_til w (b := true) (c := none) (.inl ⟨rfl, rfl⟩)
  exact ⟨h1, fun p => h2 p fun a e => by cases e⟩
/-- the loop's step -/
def whS (s : List Rw × OI) (r : Pc) : List Rw × OI := (s.1 ++ gapR s.1.isEmpty s.2 r.1 ++ [rwOf r], r.2.1)
theorem whS_go : ∀ (m : List Pc) (s : List Rw × OI), (m.foldl whS s).1 ++ endR (m.foldl whS s).1.isEmpty (m.foldl whS s).2 = s.1 ++ wh s.1.isEmpty s.2 m
  | [], s => rfl
  | r :: m, s => by
    rw [List.foldl_cons, whS_go m (whS s r)]
    have e : (whS s r).1.isEmpty = false := by
      unfold whS
      cases s.1 <;> simp
    rw [e]
    show s.1 ++ gapR s.1.isEmpty s.2 r.1 ++ [rwOf r] ++ wh false r.2.1 m = s.1 ++ (gapR s.1.isEmpty s.2 r.1 ++ rwOf r :: wh false r.2.1 m)
    simp
theorem whole_fold (m : List Pc) : (m.foldl whS ([], none)).1 ++ endR (m.foldl whS ([], none)).1.isEmpty (m.foldl whS ([], none)).2 = wholeM m := whS_go m ([], none)
theorem whS_len (m : List Pc) : (m.foldl whS ([], none)).1.length ≤ 2 * m.length + 1 := by
  have := congrArg List.length (whole_fold m)
  have l := wh_len m true none
  rw [List.length_append] at this
  unfold wholeM at this
  omega
theorem whS_snd (m : List Pc) (r : Pc) : (List.foldl whS ([], none) (m ++ [r])).2 = r.2.1 := by
  rw [List.foldl_append]
  rfl
/-! ### a map turned -/
def turnM (m : List Pc) (G : OI → OI) : List Pc := knitM (turnR G (wholeM m))
theorem turn_ok {m : List Pc} (w : WF m) (G : OI → OI) : WF (turnM m G) ∧ ∀ p, vl (turnM m G) p = G (vl m p) := by
  obtain ⟨h1, h2⟩ := whole_til w
  obtain ⟨t1, t2⟩ := til_turn G h1
  obtain ⟨k1, k2⟩ := til_knit t1
  exact ⟨k1, fun p => by unfold turnM; rw [k2, t2, h2]⟩
theorem turn_len (m : List Pc) (G : OI → OI) : (turnM m G).length ≤ 2 * m.length + 1 := by
  refine Nat.le_trans (knitM_len _) ?_
  unfold turnR
  rw [List.length_map]
  exact wh_len m true none
end Eg

/-! e[lo:hi:k], k a number of the text, e a list. -/
namespace Eg
open PySem L2 PySem.Spec PyProof.Rows
def pickG {α : Type} (xs : List α) (lo hi st : Option Int) : List α := (sliceRange (sliceBounds lo hi st xs.length).1 (sliceBounds lo hi st xs.length).2.1 (sliceBounds lo hi st xs.length).2.2).filterMap (xs[·]?)
theorem pick_toArray (items : List Value) (lo hi st : Option Int) : slicePick items.toArray lo hi st = (pickG items lo hi st).toArray := by
  unfold slicePick pickG
  rw [List.size_toArray]
  simp
theorem pick_len {α : Type} (xs : List α) (lo hi st : Option Int) (us : List Value) (h : us.length = xs.length) : (pickG xs lo hi st).length ≤ xs.length := by
  have h1 := slicePick_size_le us.toArray lo hi st
  rw [pick_toArray, List.size_toArray, List.size_toArray] at h1
  have h2 : (pickG xs lo hi st).length = (pickG us lo hi st).length := by
    unfold pickG
    rw [h]
    generalize sliceRange _ _ _ = l
    induction l with
    | nil => rfl
    | cons i l ih =>
      by_cases c : i < xs.length
      · simp [List.filterMap_cons, List.getElem?_eq_getElem c, List.getElem?_eq_getElem (show i < us.length by omega), ih]
      · simp [List.filterMap_cons, List.getElem?_eq_none (show xs.length ≤ i by omega), List.getElem?_eq_none (show us.length ≤ i by omega), ih]
  omega
theorem vals_at : ∀ {xs : List V} {us : List Value} {i : Nat}, Vals xs us → (∃ x u, xs[i]? = some x ∧ us[i]? = some u ∧ RelV x u) ∨ (xs[i]? = none ∧ us[i]? = none)
  | _, _, i, .nil => by simp
  | _, _, 0, .cons h _ => .inl ⟨_, _, rfl, rfl, h⟩
  | _, _, i + 1, .cons _ t => by simpa using vals_at (i := i) t
theorem vals_pick {xs : List V} {us : List Value} (r : Vals xs us) (lo hi st : Option Int) : Vals (pickG xs lo hi st) (pickG us lo hi st) := by
  unfold pickG
  rw [r.length]
  generalize sliceRange _ _ _ = l
  induction l with
  | nil => exact .nil
  | cons i l ih =>
    rw [List.filterMap_cons, List.filterMap_cons]
    rcases vals_at (i := i) r with ⟨x, u, e1, e2, h⟩ | ⟨e1, e2⟩
    · rw [e1, e2]; exact .cons h ih
    · rw [e1, e2]; exact ih
theorem repL_pick {K : PySem.W.Frag} {Z : Stc} {S : Gh} {vs : List Val} {xs : List V} (r : RepL K Z S vs xs) (lo hi st : Option Int) : RepL K Z S (pickG vs lo hi st) (pickG xs lo hi st) := by
  have hl := repL_len r
  unfold pickG
  rw [hl]
  generalize sliceRange _ _ _ = l
  induction l with
  | nil => simp only [List.filterMap_nil, RepL]
  | cons i l ih =>
    rw [List.filterMap_cons, List.filterMap_cons]
    by_cases c : i < vs.length
    · have e := List.getElem?_eq_getElem c
      obtain ⟨x, e1, e2⟩ := repL_at r e
      rw [e, e1]
      exact repL_cons e2 ih
    · rw [List.getElem?_eq_none (by omega), List.getElem?_eq_none (by omega)]
      exact ih
theorem pick_map {α β : Type} (f : α → β) (xs : List α) (lo hi st : Option Int) : pickG (xs.map f) lo hi st = (pickG xs lo hi st).map f := by
  unfold pickG
  rw [List.length_map, List.map_filterMap]
  congr 1
  funext i
  rw [List.getElem?_map]
theorem pick_mem {α : Type} {xs : List α} {lo hi st : Option Int} {a : α} (h : a ∈ pickG xs lo hi st) : a ∈ xs := by
  obtain ⟨i, _, e⟩ := List.mem_filterMap.mp h
  exact List.mem_of_getElem? e
theorem pick_lenI (xs : List Int) (lo hi st : Option Int) : (pickG xs lo hi st).length ≤ xs.length := pick_len xs lo hi st (xs.map fun _ => Value.none) (by simp)
section
variable {X : Cx} {K : PySem.W.Frag} {Z : Stc} {W : WX}
def tSl3 (K : PySem.W.Frag) (k : Int) (ta : TE) (tl th : TO) : TE := fun σ H Q => ta σ H fun x H1 => tl σ H1 fun l H2 => th σ H2 fun u H3 => ∃ a xs, x = .ref a ∧ SqL K H3 a xs ∧ ∀ p, H3 p = none → Q (.ref p) (upd H3 p (.lst (pickG xs l u (some k))))
theorem pe_sl3 {e : Expr} {lo hi : Option Expr} {k : Int} {j : Nat} {ta : TE} {tl th : TO} {p1 p3 pos : Pos} (hk : k ≠ 0) (he : PE X e ta) (hl : PO X lo tl) (hh : PO X hi th) :
    PE X (.Subscript e (.Slice lo hi (some (.Constant (.int k) j p1)) p3) pos) (tSl3 X.K k ta tl th) := by
  refine ⟨fun pins s σ H Q I h => ?_⟩
  refine Subscript_ (thn (he.run pins s σ H _ I h) fun v s1 ⟨x, H1, I1, r1, q1⟩ => ?_)
  refine wpAny_Slice (thn (hl.run pins s1 σ H1 _ I1 q1) fun vl s2 ⟨l, H2, I2, pl, q2⟩ => ?_)
  refine thn (hh.run pins s2 σ H2 _ I2 q2) fun vu s3 ⟨u, H3, I3, pu, q3⟩ => ?_
  obtain ⟨a, xs, ex, hx, q⟩ := q3
  subst ex
  obtain rfl : v = Value.ref a := r1
  have ks : PO X (some (.Constant (.int k) j p1)) (tPart (tC (.int k))) := po_some pe_int
  refine thn (ks.run pins s3 σ H3 (fun o H4 => o = some k ∧ H4 = H3) I3 ⟨k, rfl, rfl, rfl⟩) fun vs s4 ⟨o, H4, I4, ps, eo, e4⟩ => ?_
  obtain rfl : H3 = H4 := e4.symm
  subst eo
  have I5 : L2.Inv X pins σ H3 { s4 with heap := s4.heap.push { cls := .type "slice", data := .fields #[vl, vu, vs] } } := I4.kept (t' := s4.toks) fun b ob z => Heap.get?_push_of_some _ z
  obtain ⟨its, r, ht, hz⟩ := I5.list hx
  have hlen := r.length
  show wpAny (model X.prog X.w) X.A (subscriptTail e (.Slice lo hi (some (.Constant (.int k) j p1)) p3) (.ref a) (.ref s4.heap.objs.size)) (EP X pins σ Q) X.xe { s4 with heap := s4.heap.push { cls := .type "slice", data := .fields #[vl, vu, vs] } }
  refine tail_any (ops := [.ref a, .ref s4.heap.objs.size]) ht.isList.typeIs (PySem.slot_list_getitem.lookup) ?_ (by with_unfolding_all rfl)
  refine wpAny_getItem_list_slice ht.isList (Heap.IsSliceOf.new _ vl vu vs) pl pu ps (by simpa using hk) ?_ (by rw [List.size_toArray]; omega)
  rw [pick_toArray]
  refine ⟨.ref _, _, I5.laid (t' := s4.toks) (o := .lst (pickG xs l u (some k))) (fun b ob z => Heap.get?_push_of_some _ z) (Nat.le_refl _) ?_, rfl, q _ (I5.hok.fresh (Nat.le_refl _))⟩
  exact ⟨Nat.le_trans (pick_len xs l u (some k) its hlen.symm) hz, _, 0, vals_pick r l u (some k), Heap.get?_push_size _ rfl⟩
def gSl3 (k : Int) (v : Val) (lo hi : Option Int) : Option R := match v with
  | .lst vs => some (.own (pickG vs lo hi (some k)))
  | .slst vs => some (.own (pickG vs lo hi (some k)))
  | _ => none
@[simp] def dSl3 (k : Int) (d : DP) (lo hi : DO) : DE := fun env st => (d env st).bind fun v st => (lo env st).bind fun l st => (hi env st).bind fun h st => fromO (gSl3 k v l h) st
theorem me_sl3 {e : Expr} {lo hi : Option Expr} {k : Int} {j : Nat} {d : DP} {dl dh : DO} {p1 p3 pos : Pos} (h : MP Z X W e d) (hl : MO Z X W lo dl) (hh : MO Z X W hi dh) (hk : k ≠ 0 := by decide) : ME Z X W (.Subscript e (.Slice lo hi (some (.Constant (.int k) j p1)) p3) pos) (dSl3 k d dl dh) := by
  obtain ⟨t, h1, h2⟩ := h
  obtain ⟨tl, h3, h4⟩ := hl
  obtain ⟨th, h5, h6⟩ := hh
  refine ⟨_, pe_sl3 hk h1 h3 h5, ?_⟩
  refine snd_bind (RPb := rpE X.K Z) (tb := fun x σ H Q => tl σ H fun l H2 => th σ H2 fun u H3 => ∃ a xs, x = .ref a ∧ SqL X.K H3 a xs ∧ ∀ p, H3 p = none → Q (.ref p) (upd H3 p (.lst (pickG xs l u (some k))))) (db := fun v env st => (dl env st).bind fun l st => (dh env st).bind fun h st => fromO (gSl3 k v l h) st) h2 ?_
  intro S σ H env st Q v x S1 H1 st1 r e1 r1 p1 po
  refine h4 S1 σ H1 env st1 _ r1 ?_
  cases e : dl env st1 with
  | bad => simp only [e, Out.bind, Post] at po
  | exc c fs st2 =>
    simp only [e, Out.bind, Post] at po ⊢
    exact po
  | ok l st2 =>
    simp only [e, Out.bind] at po
    intro l' S2 H2 e2 w2 s2 q2
    obtain rfl : l = l' := q2
    have r2 := r1.ext e2 w2 s2
    refine h6 S2 σ H2 env st2 _ r2 ?_
    cases ee : dh env st2 with
    | bad => simp only [ee, Post] at po
    | exc c fs st3 =>
      simp only [ee, Post] at po ⊢
      exact fun cls d S' H' e3 w3 s3 x3 => po cls d S' H' (e2.trans e3) w3 s3 x3
    | ok h st3 =>
      simp only [ee] at po
      intro h' S3 H3 e3 w3 s3 q3
      obtain rfl : h = h' := q3
      have pp := (PRepS.ext r2.wf e3 (PRepS.ext r1.wf e2 p1)).p
      have fin : ∀ (a : Addr) (xs : List V) (vs : List Val), x = .ref a → SqL X.K H3 a xs → RepL X.K Z S3 vs xs → gSl3 k v l h = some (.own (pickG vs l h (some k))) → ∃ a xs, x = .ref a ∧ SqL X.K H3 a xs ∧ ∀ p, H3 p = none → Q (.ref p) (upd H3 p (.lst (pickG xs l h (some k)))) := by
        intro a xs vs ex hx rx eg
        refine ⟨a, xs, ex, hx, fun p hp => ?_⟩
        simp only [eg, fromO, Post] at po
        have e4 := ExtP.new (o := .lst (pickG xs l h (some k))) w3 hp
        refine po _ S3 _ ((e2.trans e3).trans e4.ext) e4.wf (s3.extP e4) ?_
        exact ⟨p, _, rfl, upd_same, ng_none w3 hp, none_of_live (fun a hh => e3.live a (e2.live a (e1.live a hh))) hp, repL_pick rx l h (some k)⟩
      cases v with
      | lst vs =>
        obtain ⟨a, xs, ex, hx, rx⟩ := pp
        exact fin a xs vs ex (.inl (.inl hx)) rx rfl
      | slst vs =>
        have pp : Rep X.K Z S3 (.slst vs) x := pp
        simp only [Rep] at pp
        obtain ⟨a, xs, ex, hx, rx⟩ := pp
        exact fin a xs vs ex (sqL_at (w3.same a) hx) rx rfl
      | _ => exact po.elim
end
end Eg

/-! for .. in zip(a, b), in enumerate(a). -/
namespace Eg
open PySem L2
section
variable {K : PySem.W.Frag} {Z : Stc} {S S1 S2 : Gh} {H H1 H2 : Hp} {W : WX}
theorem RR.later {r : R} {x : V} (w : Wf S1 H1) (e : Ext S1 H1 S2 H2) (h : RR K Z S1 H H1 r x) : RR K Z S2 H H2 r x := by
  cases r with
  | val v => exact Rep.mono e.mon _ _ h
  | own vs =>
    obtain ⟨l, xs, e1, q, g, n, r1⟩ := h
    exact ⟨l, xs, e1, e.frame _ _ q (kp_of g.m), g.ext e q, n, RepL.mono e.mon _ _ r1⟩
  | ownd ks vs =>
    obtain ⟨l, xs, e1, q, g, n, k, r1⟩ := h
    exact ⟨l, xs, e1, e.frame _ _ q (kp_of g.m), g.ext e q, n, k, RepL.mono e.mon _ _ r1⟩
def zipV : List Val → List Val → List Val
  | a :: as, b :: bs => .tup [a, b] :: zipV as bs
  | _, _ => []
theorem zipV_get : ∀ {as bs : List Val} {i : Nat} {v : Val}, (zipV as bs)[i]? = some v → ∃ a b, as[i]? = some a ∧ bs[i]? = some b ∧ v = .tup [a, b]
  | a :: as, b :: bs, 0, v, h => ⟨a, b, rfl, rfl, by simp [zipV] at h; exact h.symm⟩
  | a :: as, b :: bs, i + 1, v, h => by
    simp only [zipV, List.getElem?_cons_succ] at h ⊢
    exact zipV_get h
  | [], _, _, _, h => by simp [zipV] at h
  | _ :: _, [], _, _, h => by simp [zipV] at h
theorem zipV_len : ∀ (as bs : List Val), (zipV as bs).length = min as.length bs.length
  | [], bs => by simp [zipV]
  | _ :: _, [] => by simp [zipV]
  | a :: as, b :: bs => by
    simp only [zipV, List.length_cons, zipV_len as bs]
    omega
theorem gives_zip {env σ} {a b : Addr} {xs ys : List V} {vs ws : List Val} (ha : ∀ H2, Fr S H env σ H2 → SqL K H2 a xs) (hb : ∀ H2, Fr S H env σ H2 → SqL K H2 b ys) (ra : RepL K Z S vs xs) (rb : RepL K Z S ws ys) : Gives K Z S H env σ (Itz K a b) (zipV vs ws) := by
  intro i S2 H2 f m w2
  have h1 := ha H2 f
  have h2 := hb H2 f
  refine ⟨fun hl => ⟨xs, ys, h1, h2, ?_⟩, fun v hv => ?_⟩
  · rw [zipV_len] at hl
    rw [← repL_length ra, ← repL_length rb]
    omega
  · obtain ⟨v1, v2, e1, e2, rfl⟩ := zipV_get hv
    obtain ⟨x, k1, k2⟩ := repL_get ra e1
    obtain ⟨y, k3, k4⟩ := repL_get rb e2
    refine ⟨⟨xs, ys, x, y, h1, h2, k1, k3⟩, fun z H3 hz => ?_⟩
    obtain ⟨T, x', y', rfl, hT, rfl, g1, g2⟩ := hz
    have q1 := g1 xs h1
    have q2 := g2 ys h2
    rw [k1] at q1
    rw [k3] at q2
    cases q1
    cases q2
    refine ⟨_, ExtP.newF (o := .tup [x, y]) w2 hT trivial, ?_⟩
    simp only [Rep]
    exact ⟨T, _, rfl, .inl (.inl upd_same), repL_cons (Rep.mono (m.trans (mon_add (ng_of w2 hT))) _ _ k2) (repL_cons (Rep.mono (m.trans (mon_add (ng_of w2 hT))) _ _ k4) repL_nil)⟩
def enumV : Nat → List Val → List Val
  | _, [] => []
  | k, v :: vs => .tup [.int k, v] :: enumV (k + 1) vs
theorem enumV_get : ∀ {vs : List Val} {k i : Nat} {v : Val}, (enumV k vs)[i]? = some v → ∃ a, vs[i]? = some a ∧ v = .tup [.int ((k + i : Nat) : Int), a]
  | [], _, _, _, h => by simp [enumV] at h
  | a :: as, k, 0, v, h => ⟨a, rfl, by simp [enumV] at h; exact h.symm⟩
  | a :: as, k, i + 1, v, h => by
    simp only [enumV, List.getElem?_cons_succ] at h ⊢
    obtain ⟨b, e, rfl⟩ := enumV_get h
    exact ⟨b, e, by rw [Nat.add_right_comm]; rfl⟩
theorem enumV_len : ∀ (vs : List Val) (k : Nat), (enumV k vs).length = vs.length
  | [], _ => rfl
  | _ :: vs, k => by simp only [enumV, List.length_cons, enumV_len vs]
theorem gives_enum {env σ} {a : Addr} {xs : List V} {vs : List Val} (ha : ∀ H2, Fr S H env σ H2 → SqL K H2 a xs) (ra : RepL K Z S vs xs) : Gives K Z S H env σ (Ite K a) (enumV 0 vs) := by
  intro i S2 H2 f m w2
  have h1 := ha H2 f
  refine ⟨fun hl => ⟨xs, h1, by rw [← repL_length ra, ← enumV_len vs 0]; exact hl⟩, fun v hv => ?_⟩
  obtain ⟨v1, e1, rfl⟩ := enumV_get hv
  obtain ⟨x, k1, k2⟩ := repL_get ra e1
  refine ⟨⟨xs, x, h1, k1⟩, fun z H3 hz => ?_⟩
  obtain ⟨T, x', rfl, hT, rfl, g1⟩ := hz
  have q1 := g1 xs h1
  rw [k1] at q1
  cases q1
  refine ⟨_, ExtP.newF (o := .tup [.int (i : Nat), x]) w2 hT trivial, ?_⟩
  simp only [Rep]
  exact ⟨T, _, rfl, .inl (.inl upd_same), repL_cons (by rw [Nat.zero_add]; simp only [Rep]) (repL_cons (Rep.mono (m.trans (mon_add (ng_of w2 hT))) _ _ k2) repL_nil)⟩
end
section
variable {Z : Stc} {X : Cx} {W : WX}
def dZip (d d' : DE) : DI := fun env st => (d env st).bind fun r st => (d' env st).bind fun r' st => match lstOf r.v, lstOf r'.v with
  | some a, some b => .ok (zipV a b) st
  | _, _ => .bad
theorem lstOf_src {v : Val} {vs : List Val} (h : lstOf v = some vs) : isTp v = false ∧ itemsOf v = some vs := by
  cases v <;> first | (cases h; done) | (cases h; exact ⟨rfl, rfl⟩)
theorem src_lst {K : PySem.W.Frag} {S S1 : Gh} {H H1 : Hp} {σ env st st1} {rr : R} {x : V} {vs : List Val} (r0 : SR K Z S σ H env st) (r1 : SR K Z S1 σ H1 env st1) (q : RR K Z S1 H H1 rr x) (e : lstOf rr.v = some vs) :
    ∃ a xs, x = .ref a ∧ (∀ H2, Fr S1 H1 env σ H2 → SqL K H2 a xs) ∧ RepL K Z S1 vs xs := by
  obtain ⟨e1, e2⟩ := lstOf_src e
  obtain ⟨a, xs, h1, h2, h3⟩ := seq_src r0 r1 q e2
  rcases h2 with ⟨_, h2⟩ | ⟨z, _⟩
  · exact ⟨a, xs, h1, h2, h3⟩
  · rw [e1] at z; cases z
theorem mi_zip {elts : List Expr} {kk : Nat} {tpos p pos : Pos} {e e2 : Expr} {d d' : DE} (h : ME Z X W e d) (h' : ME Z X W e2 d') (hm : X.mg "zip" = none) (hg : Gl X "zip" := by rfl)
    (hs : starEach [e, e2] X.env = (false, eval e X.env) :: starEach [e2] X.env := by rfl) (hs2 : starEach [e2] X.env = (false, eval e2 X.env) :: starEach [] X.env := by rfl) (hpl : (backTo pos (starEach [e2] X.env)).any (·.1) = false := by rfl) :
    MI Z X W (.Tuple elts kk tpos) (.Call (.Name "zip" p) [e, e2] [] pos) (dZip d d') := by
  obtain ⟨t, h1, h2⟩ := h
  obtain ⟨t', h3, h4⟩ := h'
  refine ⟨_, RZ.pi_zipA hg hm (pa_cons h1 (pa_cons h3 pa_nil hs2) hs) hs hpl, fun S σ H env st R r p => ?_⟩
  refine h2 S σ H env st _ r ?_
  cases ed : d env st with
  | bad => rw [dZip, ed] at p; exact p.elim
  | exc c fs st1 => rw [dZip, ed] at p; exact p
  | ok rr st1 =>
    rw [dZip, ed] at p
    intro x S1 H1 e1 w1 s1 q
    have r1 := r.ext e1 w1 s1
    refine h4 S1 σ H1 env st1 _ r1 ?_
    have p : Post X.K Z S H (fun S' H' vs J => Gives X.K Z S' H' env σ J vs) R (fun c dd H' => W c dd σ H') ((d' env st1).bind fun r' st => match lstOf rr.v, lstOf r'.v with
      | some a, some b => .ok (zipV a b) st
      | _, _ => .bad) := p
    cases ed' : d' env st1 with
    | bad => rw [ed'] at p; exact p.elim
    | exc c fs st2 =>
      rw [ed'] at p
      exact fun cls dd S' H' e3 w3 s3 x3 => p cls dd S' H' (e1.trans e3) w3 s3 x3
    | ok rr' st2 =>
      rw [ed'] at p
      intro y S2 H2 e2' w2 s2 q'
      have r2 := r1.ext e2' w2 s2
      have p : Post X.K Z S H (fun S' H' vs J => Gives X.K Z S' H' env σ J vs) R (fun c dd H' => W c dd σ H') (match lstOf rr.v, lstOf rr'.v with
        | some a, some b => .ok (zipV a b) st2
        | _, _ => .bad) := p
      cases ea : lstOf rr.v with
      | none => rw [ea] at p; exact p.elim
      | some va =>
        cases eb : lstOf rr'.v with
        | none => rw [ea, eb] at p; exact p.elim
        | some vb =>
          rw [ea, eb] at p
          obtain ⟨a, xs, rfl, ha, ra⟩ := src_lst r r2 (RR.later w1 e2' q) ea
          obtain ⟨b, ys, rfl, hb, rb⟩ := src_lst r1 r2 q' eb
          exact ⟨a, b, xs, ys, rfl, .inl ⟨ha H2 (fun _ _ z _ _ => z), hb H2 (fun _ _ z _ _ => z), p _ S2 H2 (e1.trans e2') w2 s2 (gives_zip ha hb ra rb)⟩⟩
def dEnum (d : DE) : DI := fun env st => (d env st).bind fun r st => match lstOf r.v with
  | some a => .ok (enumV 0 a) st
  | none => .bad
theorem mi_enum {elts : List Expr} {kk : Nat} {tpos p pos : Pos} {e : Expr} {d : DE} (h : ME Z X W e d) (hm : X.mg "enumerate" = none) (hg : Gl X "enumerate" := by rfl)
    (hs : starEach [e] X.env = [(false, eval e X.env)] := by rfl) (hs2 : starEach [e] X.env = (false, eval e X.env) :: starEach [] X.env := by rfl) :
    MI Z X W (.Tuple elts kk tpos) (.Call (.Name "enumerate" p) [e] [] pos) (dEnum d) := by
  obtain ⟨t, h1, h2⟩ := h
  refine ⟨_, pi_enum hg hm (pa_cons h1 pa_nil hs2) hs, fun S σ H env st R r p => ?_⟩
  refine h2 S σ H env st _ r ?_
  cases ed : d env st with
  | bad => rw [dEnum, ed] at p; exact p.elim
  | exc c fs st1 => rw [dEnum, ed] at p; exact p
  | ok rr st1 =>
    rw [dEnum, ed] at p
    intro x S1 H1 e1 w1 s1 q
    have r1 := r.ext e1 w1 s1
    have p : Post X.K Z S H (fun S' H' vs J => Gives X.K Z S' H' env σ J vs) R (fun c dd H' => W c dd σ H') (match lstOf rr.v with
      | some a => .ok (enumV 0 a) st1
      | none => .bad) := p
    cases ea : lstOf rr.v with
    | none => rw [ea] at p; exact p.elim
    | some va =>
      rw [ea] at p
      obtain ⟨a, xs, rfl, ha, ra⟩ := src_lst r r1 q ea
      exact ⟨a, xs, rfl, ha H1 (fun _ _ z _ _ => z), p _ S1 H1 e1 w1 s1 (gives_enum ha ra)⟩
end
end Eg

/-! Two rows of stretches, end to end each, joined. -/
namespace Eg
open PySem L2
def adv (hi : OI) : List Rw → List Rw
  | [] => []
  | o :: l => if o.2.1 = hi then l else o :: l
def jRow (g : OI → OI → OI) (o t : Rw) : Rw := (laterM o.1 t.1, earlierM o.2.1 t.2.1, g o.2.2 t.2.2)
def jn (g : OI → OI → OI) : Nat → List Rw → List Rw → List Rw
  | f + 1, o :: os, t :: ts => jRow g o t :: jn g f (adv (earlierM o.2.1 t.2.1) (o :: os)) (adv (earlierM o.2.1 t.2.1) (t :: ts))
  | _, _, _ => []
theorem earlier_one (a b : OI) : earlierM a b = a ∨ earlierM a b = b := by
  cases a with
  | none => exact .inr (by cases b <;> rfl)
  | some a =>
    cases b with
    | none => exact .inl rfl
    | some b =>
      unfold earlierM
      dsimp only
      split
      · exact .inr rfl
      · exact .inl rfl
theorem adv_len (hi : OI) (l : List Rw) : (adv hi l).length ≤ l.length := by
  cases l with
  | nil => exact Nat.le_refl _
  | cons o l =>
    show (if o.2.1 = hi then l else o :: l).length ≤ _
    split <;> simp
theorem adv_less (o t : Rw) (os ts : List Rw) : (adv (earlierM o.2.1 t.2.1) (o :: os)).length + (adv (earlierM o.2.1 t.2.1) (t :: ts)).length < (o :: os).length + (t :: ts).length := by
  have h1 := adv_len (earlierM o.2.1 t.2.1) (o :: os)
  have h2 := adv_len (earlierM o.2.1 t.2.1) (t :: ts)
  rcases earlier_one o.2.1 t.2.1 with h | h
  · have : (adv (earlierM o.2.1 t.2.1) (o :: os)).length = os.length := by rw [h]; simp [adv]
    simp at h2 ⊢
    omega
  · have : (adv (earlierM o.2.1 t.2.1) (t :: ts)).length = ts.length := by rw [h]; simp [adv]
    simp at h1 ⊢
    omega
theorem jn_fuel (g : OI → OI → OI) : ∀ (f f' : Nat) (os ts : List Rw), os.length + ts.length ≤ f → os.length + ts.length ≤ f' → jn g f os ts = jn g f' os ts
  | 0, f', os, ts, h, _ => by
    have : os = [] := List.length_eq_zero_iff.mp (by omega)
    subst this
    cases f' <;> rfl
  | f + 1, 0, os, ts, _, h => by
    have : os = [] := List.length_eq_zero_iff.mp (by omega)
    subst this
    rfl
  | f + 1, f' + 1, [], ts, _, _ => rfl
  | f + 1, f' + 1, o :: os, [], _, _ => rfl
  | f + 1, f' + 1, o :: os, t :: ts, h, h' => by
    have l := adv_less o t os ts
    show jRow g o t :: _ = jRow g o t :: _
    rw [jn_fuel g f f' _ _ (by omega) (by omega)]
theorem jn_len (g : OI → OI → OI) : ∀ (f : Nat) (os ts : List Rw), (jn g f os ts).length ≤ os.length + ts.length
  | 0, os, ts => by simp [jn]
  | f + 1, [], ts => by simp [jn]
  | f + 1, o :: os, [] => by simp [jn]
  | f + 1, o :: os, t :: ts => by
    have l := adv_less o t os ts
    have := jn_len g f (adv (earlierM o.2.1 t.2.1) (o :: os)) (adv (earlierM o.2.1 t.2.1) (t :: ts))
    show (jRow g o t :: _).length ≤ _
    simp at l ⊢
    omega
theorem jn_step (g : OI → OI → OI) (f : Nat) (o t : Rw) (os ts : List Rw) (h : (o :: os).length + (t :: ts).length ≤ f) : jn g f (o :: os) (t :: ts) = jRow g o t :: jn g f (adv (earlierM o.2.1 t.2.1) (o :: os)) (adv (earlierM o.2.1 t.2.1) (t :: ts)) := by
  have l := adv_less o t os ts
  cases f with
  | zero => simp at h
  | succ f =>
    show jRow g o t :: _ = jRow g o t :: _
    rw [jn_fuel g f (f + 1) _ _ (by omega) (by omega)]
/-- rows from a place on, of which the first may have begun ahead of it -/
def Hd (c : OI) (o : Rw) (l : List Rw) : Prop := (∀ x, o.1 = some x → ∃ y, c = some y ∧ x ≤ y) ∧ match o.2.1 with
  | none => l = []
  | some a => (∀ x, c = some x → x < a) ∧ Til (some a) l
theorem hd_of {c : OI} {o : Rw} {l : List Rw} (h : Til c (o :: l)) : o.1 = c ∧ Hd c o l := by
  obtain ⟨h1, h2⟩ := h
  exact ⟨h1, fun x e => ⟨x, by rw [← h1, e], Int.le_refl x⟩, h2⟩
theorem hd_later {c : OI} {o t : Rw} {os ts : List Rw} (ho : Hd c o os) (ht : Hd c t ts) (e : o.1 = c ∨ t.1 = c) : laterM o.1 t.1 = c := by
  cases eo : o.1 with
  | none =>
    rcases e with e | e
    · cases et : t.1 with
      | none => rw [← e, eo]; rfl
      | some x =>
        obtain ⟨y, z, _⟩ := ht.1 x et
        rw [← e, eo] at z
        cases z
    · rw [e]; cases c <;> rfl
  | some x =>
    obtain ⟨y, z, z2⟩ := ho.1 x eo
    cases et : t.1 with
    | none =>
      rcases e with e | e
      · rw [← e, eo]; rfl
      · rw [z, et] at e
        cases e
    | some w =>
      obtain ⟨y', z', z2'⟩ := ht.1 w et
      rw [z] at z'
      cases z'
      have : (if w < x then x else w) = y ∨ max x w = y := by
        right
        rcases e with e | e
        · rw [eo, z] at e; cases e; omega
        · rw [et, z] at e; cases e; omega
      rw [z]
      simp only [laterM]
      rcases e with e | e
      · rw [eo, z] at e
        cases e
        congr 1
        first | omega | (split <;> omega)
      · rw [et, z] at e
        cases e
        congr 1
        first | omega | (split <;> omega)
/-- what comes behind one step -/
inductive Nxt (b : OI) : List Rw → List Rw → Prop where
  | done (h : b = none) : Nxt b [] []
  | more {o t : Rw} {os ts : List Rw} (ho : Hd b o os) (ht : Hd b t ts) (e : o.1 = b ∨ t.1 = b) (h : b ≠ none) : Nxt b (o :: os) (t :: ts)
theorem hd_keep {c : OI} {o : Rw} {os : List Rw} {b : Int} (h : Hd c o os) (hc : ∀ x, c = some x → x < b) (hb : ∀ a, o.2.1 = some a → b < a) : Hd (some b) o os := by
  obtain ⟨h1, h2⟩ := h
  refine ⟨fun x e => ?_, ?_⟩
  · obtain ⟨y, e2, l⟩ := h1 x e
    have := hc y e2
    exact ⟨b, rfl, by omega⟩
  · cases e : o.2.1 with
    | none => rw [e] at h2; exact h2
    | some a => rw [e] at h2; exact ⟨fun x ex => by cases ex; exact hb a e, h2.2⟩
theorem til_ex {c : OI} {l : List Rw} (h : Til c l) : ∃ o l', l = o :: l' ∧ o.1 = c ∧ Hd c o l' := by
  cases l with
  | nil => exact h.elim
  | cons o l' => exact ⟨o, l', rfl, (hd_of h).1, (hd_of h).2⟩
theorem nxt_of {c : OI} {o t : Rw} {os ts : List Rw} (ho : Hd c o os) (ht : Hd c t ts) :
    Nxt (earlierM o.2.1 t.2.1) (adv (earlierM o.2.1 t.2.1) (o :: os)) (adv (earlierM o.2.1 t.2.1) (t :: ts)) ∧ ∀ b, earlierM o.2.1 t.2.1 = some b → ∀ x, c = some x → x < b := by
  have o2 := ho.2
  have t2 := ht.2
  cases eo : o.2.1 with
  | none =>
    rw [eo] at o2
    dsimp only at o2
    cases et : t.2.1 with
    | none =>
      rw [et] at t2
      dsimp only at t2
      refine ⟨?_, fun b e => by cases e⟩
      have e1 : adv (earlierM none none) (o :: os) = [] := by simp [adv, eo, earlierM, o2]
      have e2 : adv (earlierM none none) (t :: ts) = [] := by simp [adv, et, earlierM, t2]
      rw [e1, e2]
      exact .done rfl
    | some b =>
      rw [et] at t2
      obtain ⟨u, ts', rfl, u1, hu⟩ := til_ex t2.2
      have e1 : adv (earlierM none (some b)) (o :: os) = o :: os := by simp [adv, eo, earlierM]
      have e2 : adv (earlierM none (some b)) (t :: u :: ts') = u :: ts' := by simp [adv, et, earlierM]
      rw [e1, e2]
      exact ⟨.more (hd_keep ho t2.1 (fun a e => by rw [eo] at e; cases e)) hu (.inr u1) (by simp [earlierM]), fun b' e x ex => by cases e; exact t2.1 x ex⟩
  | some a =>
    rw [eo] at o2
    obtain ⟨u, os', rfl, u1, hu⟩ := til_ex o2.2
    cases et : t.2.1 with
    | none =>
      rw [et] at t2
      dsimp only at t2
      have e1 : adv (earlierM (some a) none) (o :: u :: os') = u :: os' := by simp [adv, eo, earlierM]
      have e2 : adv (earlierM (some a) none) (t :: ts) = t :: ts := by simp [adv, et, earlierM]
      rw [e1, e2]
      exact ⟨.more hu (hd_keep ht o2.1 (fun a e => by rw [et] at e; cases e)) (.inl u1) (by simp [earlierM]), fun b' e x ex => by cases e; exact o2.1 x ex⟩
    | some b =>
      rw [et] at t2
      obtain ⟨v, ts', rfl, v1, hv⟩ := til_ex t2.2
      have em : earlierM (some a) (some b) = some (min a b) := by
        simp only [earlierM]
        congr 1
        first | rfl | omega | (split <;> omega)
      rw [em]
      by_cases c1 : a < b
      · have mm : min a b = a := by omega
        rw [mm]
        have e1 : adv (some a) (o :: u :: os') = u :: os' := by simp [adv, eo]
        have e2 : adv (some a) (t :: v :: ts') = t :: v :: ts' := by
          have : ¬ b = a := by omega
          simp [adv, et, this]
        rw [e1, e2]
        exact ⟨.more hu (hd_keep ht o2.1 (fun x e => by rw [et] at e; cases e; exact c1)) (.inl u1) (by simp), fun b' e x ex => by cases e; exact o2.1 x ex⟩
      · by_cases c2 : b < a
        · have mm : min a b = b := by omega
          rw [mm]
          have e1 : adv (some b) (o :: u :: os') = o :: u :: os' := by
            have : ¬ a = b := by omega
            simp [adv, eo, this]
          have e2 : adv (some b) (t :: v :: ts') = v :: ts' := by simp [adv, et]
          rw [e1, e2]
          exact ⟨.more (hd_keep ho t2.1 (fun x e => by rw [eo] at e; cases e; exact c2)) hv (.inr v1) (by simp), fun b' e x ex => by cases e; exact t2.1 x ex⟩
        · obtain rfl : a = b := by omega
          have mm : min a a = a := by omega
          rw [mm]
          have e1 : adv (some a) (o :: u :: os') = u :: os' := by simp [adv, eo]
          have e2 : adv (some a) (t :: v :: ts') = v :: ts' := by simp [adv, et]
          rw [e1, e2]
          exact ⟨.more hu hv (.inl u1) (by simp), fun b' e x ex => by cases e; exact o2.1 x ex⟩
theorem tv_adv {o : Rw} {os : List Rw} {hi : OI} {p : Int} (h : ∀ b, hi = some b → ¬ p < b) (h0 : hi ≠ none) : tv (adv hi (o :: os)) p = tv (o :: os) p := by
  show tv (if o.2.1 = hi then os else o :: os) p = _
  split
  · rename_i e
    cases eh : hi with
    | none => exact absurd eh h0
    | some b =>
      rw [eh] at e
      have := h b eh
      conv => rhs; unfold tv
      rw [e]
      simp [this]
  · rfl
theorem tv_in {o : Rw} {os : List Rw} {p : Int} (h : ∀ b, o.2.1 = some b → p < b) : tv (o :: os) p = o.2.2 := by
  unfold tv
  cases e : o.2.1 with
  | none => rfl
  | some b => simp [h b e]
theorem earlier_le2 {a b : OI} {p : Int} (h : ∀ x, earlierM a b = some x → p < x) : (∀ x, a = some x → p < x) ∧ ∀ x, b = some x → p < x := by
  cases a with
  | none =>
    exact ⟨fun x e => (by cases e), fun x e => h x (by rw [e]; rfl)⟩
  | some a =>
    cases b with
    | none => exact ⟨fun x e => h x (by rw [e]; rfl), fun x e => (by cases e)⟩
    | some b =>
      have em : earlierM (some a) (some b) = some (min a b) := by
        simp only [earlierM]
        congr 1
        first | rfl | omega | (split <;> omega)
      have := h _ em
      exact ⟨fun x e => (by cases e; omega), fun x e => (by cases e; omega)⟩
theorem jn_ok (g : OI → OI → OI) : ∀ (f : Nat) (c : OI) (o t : Rw) (os ts : List Rw), Hd c o os → Hd c t ts → (o.1 = c ∨ t.1 = c) → (o :: os).length + (t :: ts).length ≤ f →
    Til c (jn g f (o :: os) (t :: ts)) ∧ ∀ p, tv (jn g f (o :: os) (t :: ts)) p = g (tv (o :: os) p) (tv (t :: ts) p)
  | 0, c, o, t, os, ts, _, _, _, h => by simp at h
  | f + 1, c, o, t, os, ts, ho, ht, e, h => by
    obtain ⟨nx, lt⟩ := nxt_of ho ht
    have l := adv_less o t os ts
    have hl := hd_later ho ht e
    have un : jn g (f + 1) (o :: os) (t :: ts) = jRow g o t :: jn g f (adv (earlierM o.2.1 t.2.1) (o :: os)) (adv (earlierM o.2.1 t.2.1) (t :: ts)) := rfl
    rw [un]
    have r1 : (jRow g o t).1 = c := hl
    have r2 : (jRow g o t).2.1 = earlierM o.2.1 t.2.1 := rfl
    have r3 : (jRow g o t).2.2 = g o.2.2 t.2.2 := rfl
    have fst : ∀ p, (∀ b, earlierM o.2.1 t.2.1 = some b → p < b) → g o.2.2 t.2.2 = g (tv (o :: os) p) (tv (t :: ts) p) := fun p hp => by
      obtain ⟨z1, z2⟩ := earlier_le2 hp
      rw [tv_in z1, tv_in z2]
    have key : ∀ as bs, adv (earlierM o.2.1 t.2.1) (o :: os) = as → adv (earlierM o.2.1 t.2.1) (t :: ts) = bs → Nxt (earlierM o.2.1 t.2.1) as bs →
        Til c (jRow g o t :: jn g f as bs) ∧ ∀ p, tv (jRow g o t :: jn g f as bs) p = g (tv (o :: os) p) (tv (t :: ts) p) := by
      intro as bs ea eb nx
      cases nx with
      | done hn =>
        have en : jn g f [] [] = [] := by cases f <;> rfl
        rw [en]
        refine ⟨⟨r1, by rw [r2, hn]⟩, fun p => ?_⟩
        rw [tv_in (by rw [r2, hn]; exact fun b e => by cases e), r3]
        exact fst p fun b e => by rw [hn] at e; cases e
      | more ho' ht' e' hn =>
        rw [ea, eb] at l
        obtain ⟨z1, z2⟩ := jn_ok g f _ _ _ _ _ ho' ht' e' (by omega)
        cases eh : earlierM o.2.1 t.2.1 with
        | none => exact absurd eh hn
        | some b =>
          refine ⟨⟨r1, by rw [r2, eh]; exact ⟨lt b eh, by rw [eh] at z1; exact z1⟩⟩, fun p => ?_⟩
          by_cases c1 : p < b
          · rw [tv_in (by rw [r2, eh]; exact fun x e => by cases e; exact c1), r3]
            exact fst p fun x e => by rw [eh] at e; cases e; exact c1
          · conv => lhs; unfold tv
            rw [r2, eh]
            simp only [if_neg c1]
            rw [z2 p, ← ea, ← eb]
            have hb : ∀ x, earlierM o.2.1 t.2.1 = some x → ¬ p < x := fun x e => by rw [eh] at e; cases e; exact c1
            rw [tv_adv hb hn, tv_adv hb hn]
    exact key _ _ rfl rfl nx
def joinR (g : OI → OI → OI) (a b : List Pc) : List Rw := jn g ((wholeM a).length + (wholeM b).length) (wholeM a) (wholeM b)
def joinM (g : OI → OI → OI) (a b : List Pc) : List Pc := knitM (joinR g a b)
theorem join_ok (g : OI → OI → OI) {a b : List Pc} (w : WF a) (w' : WF b) : WF (joinM g a b) ∧ ∀ p, vl (joinM g a b) p = g (vl a p) (vl b p) := by
  obtain ⟨h1, h2⟩ := whole_til w
  obtain ⟨h3, h4⟩ := whole_til w'
  obtain ⟨o, os, e1, e2, ho⟩ := til_ex h1
  obtain ⟨t, ts, e3, e4, ht⟩ := til_ex h3
  obtain ⟨k1, k2⟩ := jn_ok g _ _ _ _ _ _ ho ht (.inl e2) (Nat.le_refl _)
  have er : joinR g a b = jn g ((o :: os).length + (t :: ts).length) (o :: os) (t :: ts) := by unfold joinR; rw [e1, e3]
  obtain ⟨k3, k4⟩ := til_knit k1
  refine ⟨by unfold joinM; rw [er]; exact k3, fun p => ?_⟩
  unfold joinM
  rw [er, k4, k2, ← e1, ← e3, h2, h4]
theorem joinR_len (g : OI → OI → OI) (a b : List Pc) : (joinR g a b).length ≤ 2 * a.length + 2 * b.length + 2 := by
  have := jn_len g ((wholeM a).length + (wholeM b).length) (wholeM a) (wholeM b)
  have h1 := wh_len a true none
  have h2 := wh_len b true none
  unfold joinR
  unfold wholeM at *
  omega
theorem joinM_len (g : OI → OI → OI) (a b : List Pc) : (joinM g a b).length ≤ 2 * a.length + 2 * b.length + 2 := Nat.le_trans (knitM_len _) (joinR_len g a b)
end Eg

/-! What is never come to. -/
namespace Eg
open PySem L2
section
variable {Z : Stc} {X : Cx} {W : WX}
def dBadS : DS := fun _ _ => .bad
def dBadE : DE := fun _ _ => .bad
theorem ms_bad {s : Stmt} : MS Z X W s dBadS := ⟨fun _ _ _ => False, ⟨fun _ _ _ _ _ _ h => h.elim⟩, fun S σ H env st D r p => p.elim⟩
theorem me_bad {e : Expr} : ME Z X W e dBadE := ⟨fun _ _ _ => False, ⟨fun _ _ _ _ _ _ h => h.elim⟩, fun S σ H env st Q r p => p.elim⟩
end
end Eg

/-! Exceptions with fields of their own: raised. -/
namespace Eg
open PySem L2 PySem.Spec PyProof.Rows
section
variable {X : Cx} {e : Expr} {es : List Expr} {ta : TA} {x : Str} {p1 p2 pos : Pos} {C : Addr} {mc : Value}
/-- C.__init__(self, ..), C a class under ValueError that has no __init__ of its own -/
theorem pe_cveinit {pl : Sem Bool} (r : ClX.CRead X.K C mc) (kv : PySem.W.findCls X.K (.ref C) mc "__init__" = some (.val (.builtin "ValueError.__init__")))
    (hg : Gl X x) (hm : X.mg x = some (.ref C)) (ha : PA X (e :: es) ta) (hdb : (x == ("__debug__" : Str)) = false := by decide)
    (hc : eval (.Call (.Attribute (.Name x p1) "__init__" p2) (e :: es) [] pos) X.env = (do
      let ov ← eval (.Name x p1) X.env
      standAt p2.atName
      let (f, first) ← holding [ov] (getMethod ov "__init__" pl)
      callWith pos f first (backTo pos (starEach (e :: es) X.env)) (backToKw pos (keywordEach [] X.env))) := by rfl)
    (he : starEach (e :: es) X.env = (false, eval e X.env) :: starEach es X.env := by rfl) (hpl : (backTo pos (starEach es X.env)).any (·.1) = false := by rfl) :
    PE X (.Call (.Attribute (.Name x p1) "__init__" p2) (e :: es) [] pos) (tVeI X.K ta) := by
  refine ⟨fun pins s σ H Q I h => ?_⟩
  refine PySem.W.methodCall_KW (pl := pl) (thn ((pe_glob (v := .ref C) hg hm rfl hdb).run pins s σ H (fun x H1 => x = .ref C ∧ tVeI X.K ta σ H1 Q) I ⟨rfl, h⟩) fun u s1 ⟨x, H1, I1, rx, ex, q⟩ => ?_) hc
  subst ex
  obtain rfl : u = Value.ref C := rx
  refine PySem.W.method_cls I1.kIn r.ga (PySem.W.cls_value I1.kIn r.rd kv rfl ?_)
  show wpAny _ _ (callWith pos (Value.builtin "ValueError.__init__") [] (backTo pos (starEach (e :: es) X.env)) []) _ _ _
  refine PyProof.Rows.callWith_method1 (thn (ha.run pos pins _ σ H1 _ (I1.tok _) q) fun us s2 ⟨vs, H2, I2, r1, a, C', ws, ev, hl, T, ea, q2⟩ => ?_) he hpl
  subst ev
  cases r1 with
  | @cons _ u0 _ ur ra rw' =>
    obtain rfl : u0 = Value.ref a := ra
    have hlen : ur.length ≤ sizeLine := by
      rw [← Paired.length rw', sizeLine_eq]
      omega
    exact oinit_ok T I2 ea hlen fun s' J => ⟨.non, H2, J, rfl, q2⟩
end
/-- what an __init__ with three fields promises -/
def spI3 (C : Addr) (f1 f2 f3 : Str) : Sp := fun vs H Q _ => ∃ a y1 y2 y3, vs = [.ref a, y1, y2, y3] ∧ H a = some (exo a C none) ∧
  ∀ d, H d = none → d ≠ a → ∀ H', H' a = some (exo a C (some d)) → H' d = some (exd d [(f3, y3), (f2, y2), (f1, y1)]) → (∀ b, b ≠ a → b ≠ d → H' b = H b) → Q .non H'
section
variable {P : Program} {w : World} {K : PySem.W.Frag} {mg : Str → Option Value} {base : Heap}
/-- the reading of such an __init__ -/
def tI3 (K : PySem.W.Frag) (f1 f2 f3 m : Str) : TS :=
  tSeq (tDrop (tVeI K (tCons (tVar 0) (tCons (tC (.str m)) tNil)))) (tSeq (tOst K f1 (tVar 0) (tVar 1)) (tSeq (tOst K f2 (tVar 0) (tVar 2)) (tSeq (tOst K f3 (tVar 0) (tVar 3)) tNext)))
theorem init3_of {x qual : Str} {st : Stmt} {f C : Addr} {fd : FuncData} {k : Nat} {self n1 n2 n3 f1 f2 f3 m : Str}
    (F : Fun K x qual st f fd) (S : FnScope [self, n1, n2, n3] [self, n1, n2, n3] (defScope st))
    (T : OexC K C) (h1 : PySem.W.findIn K (.ref C) f1 = some none) (h2 : PySem.W.findIn K (.ref C) f2 = some none) (h3 : PySem.W.findIn K (.ref C) f3 = some none)
    (hbody : ∀ (cdv : Value) (A : Around) (outer : List Env) (s : Shared) (H : Hp) (E : XK), PSs (cxOf (L2.CX P w) P w K mg base [self, n1, n2, n3] qual (defScope st) f cdv A outer s H E) (defBody st) (tI3 K f1 f2 f3 m)) :
    FnOk P w K mg base (L2.CX P w) (k + 1) f fd [self, n1, n2, n3] (spI3 C f1 f2 f3) := by
  refine F.okX S (fun vs H Q E h => ?_) (fun cdv A outer s H vs Q E hr h => ?_)
  · obtain ⟨a, y1, y2, y3, rfl, _⟩ := h
    rfl
  · obtain ⟨a, y1, y2, y3, rfl, ea, q⟩ := h
    refine ⟨_, hbody cdv A outer s H E, ?_⟩
    have live : ∀ dx, H dx = none → dx ≠ a → (upd (upd (upd (upd H dx (exd dx [(f1, y1)])) a (exo a C (some dx))) dx (exd dx [(f2, y2), (f1, y1)])) dx (exd dx [(f3, y3), (f2, y2), (f1, y1)])) dx = some (exd dx [(f3, y3), (f2, y2), (f1, y1)]) := fun dx _ _ => upd_same
    refine ⟨.ref a, rfl, a, C, [.str m], rfl, by simp, T, ea, ?_⟩
    refine ⟨y1, rfl, .ref a, rfl, a, C, rfl, T, h1, .inl ⟨ea, fun dx nd na => ?_⟩⟩
    refine ⟨y2, rfl, .ref a, rfl, a, C, rfl, T, h2, .inr ⟨dx, [(f1, y1)], upd_same, by rw [upd_ne na, upd_same], by simp, ?_⟩⟩
    refine ⟨y3, rfl, .ref a, rfl, a, C, rfl, T, h3, .inr ⟨dx, [(f2, y2), (f1, y1)], by rw [upd_ne (Ne.symm na), upd_same], upd_same, by simp, ?_⟩⟩
    refine q dx nd na _ ?_ upd_same fun b b1 b2 => ?_
    · rw [upd_ne (Ne.symm na), upd_ne (Ne.symm na), upd_same]
    · rw [upd_ne b2, upd_ne b2, upd_ne b1, upd_ne b2]
end
/-- a class that is raised with three fields -/
structure Rai3 (P : Program) (w : World) (K : PySem.W.Frag) (mg : Str → Option Value) (base : Heap) (k : Nat) (x f1 f2 f3 : Str) (C : Addr) : Prop where
  ex : ∃ fI fd ps, OexC K C ∧ PySem.W.findIn K (.ref C) "__init__" = some (some (.ref fI)) ∧ PySem.W.typeIn K (.ref fI) = some (.type "function") ∧ FnOk P w K mg base (L2.CX P w) k fI fd ps (spI3 C f1 f2 f3) ∧ Binds K fd ps [] ∧ mg x = some (.ref C)
section
variable {X : Cx} {e : Expr} {es : List Expr} {ta : TA} {x f1 f2 f3 : Str} {p pos : Pos} {C : Addr} {k : Nat}
theorem mk3_of {H : Hp} {Q : XK} {y1 y2 y3 : V} (q : ∀ d, H d = none → Q (.ref C) (some d) (upd H d (.xd [(f3, y3), (f2, y2), (f1, y1)]))) :
    ([y1, y2, y3] : List V).length ≤ 1000 ∧ ∀ a, H a = none → spI3 C f1 f2 f3 (.ref a :: ([y1, y2, y3] ++ [])) (upd H a (exo a C none))
      (fun v H2 => v = .non ∧ ∃ (d : Addr) (fs : List (Str × V)), H2 a = some (exo a C (some d)) ∧ H2 d = some (exd d fs) ∧ H d = none ∧ Q (.ref C) (some d) (upd (del H2 a) d (.xd fs))) (fun _ _ _ => False) := by
  refine ⟨by simp, fun a na => ⟨a, y1, y2, y3, rfl, upd_same, fun d nd nda H' e1 e2 e3 => ⟨rfl, d, _, e1, e2, ?_, ?_⟩⟩⟩
  · rw [upd_ne nda] at nd
    exact nd
  · rw [upd_ne nda] at nd
    have ee : upd (del H' a) d (.xd [(f3, y3), (f2, y2), (f1, y1)]) = upd H d (.xd [(f3, y3), (f2, y2), (f1, y1)]) := by
      funext b
      by_cases bd : b = d
      · rw [bd, upd_same, upd_same]
      · rw [upd_ne bd, upd_ne bd]
        by_cases ba : b = a
        · rw [ba, del_same, na]
        · rw [del_ne ba, e3 b ba bd, upd_ne ba]
    rw [ee]
    exact q d nd
end
/-- raise C(e1, e2, e3) -/
@[simp] def dRaise3 (c : Nat) (f1 f2 f3 : Str) (ds : List D1) : DS := fun env st => match dArgs ds env st with
  | .ok [.val v1, .val v2, .val v3] st1 => .exc c [(f3, v3), (f2, v2), (f1, v1)] env st1
  | _ => .bad
section
variable {Z : Stc} {X : Cx} {W : WX}
theorem ms_raise3 {c k : Nat} {x f1 f2 f3 : Str} {e : Expr} {es : List Expr} {ds : List D1} {p pos pos2 : Pos} (hc : X.calm = true) (tk : Takes X W) (R : Rai3 X.prog X.w X.K X.mg X.base k x f1 f2 f3 (Z.cls c)) (hr : Room (k + 1) X.A) (ha : MA Z X W (e :: es) (dArgs ds)) (hg : Gl X x := by rfl)
    (hdb : (x == ("__debug__" : Str)) = false := by decide) (he : starEach (e :: es) X.env = (false, eval e X.env) :: starEach es X.env := by rfl) (hpl : (backTo pos (starEach es X.env)).any (·.1) = false := by rfl) :
    MS Z X W (.Raise (some (.Call (.Name x p) (e :: es) [] pos)) none pos2) (dRaise3 c f1 f2 f3 ds) := by
  obtain ⟨ta, h1, h2⟩ := ha
  obtain ⟨fI, fd, ps, T, iC, tI, F1, hb, hm⟩ := R.ex
  refine ⟨_, ps_raise hc tk (pmk_oex (ds := []) (dvs := []) T iC tI F1 hr hb .nil passX hg hm h1 hdb he hpl), fun S σ H env st D r p => ?_⟩
  refine h2 S σ H env st _ r ?_
  simp only [dRaise3] at p
  cases ea : dArgs ds env st with
  | bad => simp only [ea, PostS] at p
  | exc c2 fs2 s2 => simp only [ea, PostS] at p
  | ok as st1 =>
    simp only [ea] at p
    match as, p with
    | [.val v1, .val v2, .val v3], p =>
      intro xs S' H' ex w' s' ar
      simp only [rpA, ArsR] at ar
      obtain ⟨y1, r1, rfl, a1, y2, r2, rfl, a2, y3, r3, rfl, a3, rfl⟩ := ar
      refine mk3_of (Q := fun cls d H2 => W cls d σ H2) fun d nd => ?_
      have en : ExtP S' H' S' (upd H' d (.xd [(f3, y3), (f2, y2), (f1, y1)])) := ExtP.new w' nd
      refine p (.ref (Z.cls c)) (some d) S' σ _ ((ex.trans en.ext).toS env σ) (r.ext (ex.trans en.ext) en.wf (s'.extP en)) ⟨rfl, .inr ⟨d, _, by simp, rfl, upd_same, rfl, ?_⟩⟩
      simp only [List.map_cons, List.map_nil, RepL]
      exact ⟨y3, _, rfl, a3, y2, _, rfl, a2, y1, _, rfl, a1, rfl⟩
end
end Eg

/-! Exceptions with fields of their own: caught, asked, read. -/
namespace Eg
open PySem L2 PySem.Spec PyProof.Rows
/-- the fields, as a thing that can be called with a field's name -/
def gX (fs : List (Str × Val)) : FV := fun args st => match args with
  | [.str f] => match fs.lookup f with | some v => .ok v st | none => .bad
  | _ => .bad
/-- the caught one stands at a, its dict at dd with the fields xs -/
abbrev Stc.atF (Z : Stc) (a dd : Addr) (xs : List (Str × V)) (g : FV) : Stc := { Z with ea := a, cal := fun f g' B => f = a ∧ g' = g ∧ B = [(dd, .xd xs)] }
section
variable {Z : Stc} {X : Cx} {a dd : Addr} {oe : Obj} {pn : List (Addr × Obj)}
def rIsXF (K : PySem.W.Frag) (Z : Stc) (c n : Nat) (a dd : Addr) : List V → Hp → VK → Prop := fun xs H Q => ∃ ts : List (Option Nat), (∀ t, some t ∈ ts → t < n) ∧ (∃ fs, H dd = some (.xd fs)) ∧ ((∃ t, ts = [t] ∧ xs = [.ref a, clV Z t]) ∨ ∃ tp, xs = [.ref a, .ref tp] ∧ H tp = some (.tup (ts.map (clV Z)))) ∧ Q (.bl (ts.any (isE c))) H
theorem call_isXF {Ds : List Nat} {n c : Nat} (xt : XT X.K Z Ds n) (hc : c ∈ Ds) (hz : Zc (.ref (Z.cls c)) (some dd) oe) (hf : ∃ vs, oe.data = .fields vs) : CallR (X.suite a ((a, oe) :: pn)) (.builtin "isinstance") (rIsXF X.K Z c n a dd) := by
  intro pins s σ H xs us Q I r h
  obtain ⟨ts, hts, ⟨fs, hdd⟩, hx, q⟩ := h
  have C := xt.ec c hc
  have hcl : (PySem.W.clsIn X.K (Z.cls c)).isSome = true := by
    obtain ⟨cd, h1, _⟩ := PySem.W.any_some C.hd
    rw [h1]; rfl
  obtain ⟨hget, _⟩ := I.pin (a, oe) (List.mem_append.mpr (.inl List.mem_cons_self))
  obtain ⟨vs, hv⟩ := hf
  obtain ⟨mA, hns, _⟩ := (show ObjOk X.prog X.w H s.heap dd (.xd fs) from I.hok dd _ hdd)
  obtain ⟨od, ho, _⟩ := lookIn_ns hns
  have J : PySem.W.InstAt s.heap a oe (Z.cls c) (some od) := ⟨hget, hz.1, by unfold PySem.W.notCls; rw [hv] <;> rfl, by rw [hz.2]; exact ho⟩
  rcases hx with ⟨t, rfl, rfl⟩ | ⟨tp, rfl, hT⟩
  · obtain ⟨u1, u2, rfl, r1, r2⟩ := vals2 r
    cases (show u1 = Value.ref a from r1)
    have e2 := (clV_cls Z t).eq r2
    subst e2
    refine PySem.W.kia_one (PySem.W.kitx_exc hcl C.hg C.hk C.hs C.ha C.hn C.ht C.hm) I.kIn J (kit_isE xt hc fun t' e => hts t' (by rw [e]; exact List.mem_cons_self)) (fun z => nomatch z) fun tk => ⟨.bl _, H, I.kept (t' := tk) fun _ _ z => z, rfl, ?_⟩
    simpa using q
  · obtain ⟨u1, u2, rfl, r1, r2⟩ := vals2 r
    cases (show u1 = Value.ref a from r1)
    cases (show u2 = Value.ref tp from r2)
    obtain ⟨_, its, rv, o, h1, h2, n', h3⟩ := (show ObjOk X.prog X.w H s.heap tp (.tup (ts.map (clV Z))) from I.hok tp _ hT)
    have e3 := ClsV.all (clV_all Z ts) rv
    subst e3
    obtain ⟨oc, od', dt, sl⟩ := o
    simp only at h2 h3
    subst h2 h3
    exact PySem.W.kia_tup (PySem.W.kitx_exc hcl C.hg C.hk C.hs C.ha C.hn C.ht C.hm) I.kIn J h1 (kit_anyE xt hc hts) (fun z => nomatch z) fun tk => ⟨.bl _, H, I.kept (t' := tk) fun _ _ z => z, rfl, q⟩
/-- isinstance of the caught one that has fields -/
@[simp] def dIsF (n c i : Nat) (ts : List (Option Nat)) : DE := fun env st => match env[i]? with
  | some (some (.fnv _)) => if ts.all (fun t => match t with | some t => decide (t < n) | none => true) = true then .ok (.val (.bl (ts.any (isE c)))) st else .bad
  | _ => .bad
theorem dIsF_some {n c i : Nat} {ts : List (Option Nat)} {env : Evn} {st : Store} {K : PySem.W.Frag} {Z : Stc} {S : Gh} {H : Hp} {Q : V → Hp → Prop} {Wq : Value → Option Addr → Hp → Prop} {RP : Gh → Hp → R → V → Prop} (p : Post K Z S H RP Q Wq (dIsF n c i ts env st)) :
    (∃ g, env[i]? = some (some (.fnv g))) ∧ (∀ t, some t ∈ ts → t < n) ∧ Post K Z S H RP Q Wq (.ok (.val (.bl (ts.any (isE c)))) st) := by
  unfold dIsF at p
  split at p
  · rename_i g e
    split at p
    · rename_i h
      refine ⟨⟨g, e⟩, fun t ht => ?_, p⟩
      have := List.all_eq_true.mp h _ ht
      simpa using this
    · exact p.elim
  · exact p.elim
theorem me_isF1 {Ds : List Nat} {n c i : Nat} {en : Str} {e2 : Expr} {t : Option Nat} {xs : List (Str × V)} {g : FV} {p pe pos : Pos} (xt : XT X.K Z Ds n) (hc : c ∈ Ds) (hz : Zc (.ref (Z.cls c)) (some dd) oe) (hf : ∃ vs, oe.data = .fields vs) (hm : X.mg "isinstance" = none)
    (hv : PE (X.suite a ((a, oe) :: pn)) (.Name en pe) (tVar i)) (hcl : CL Z (X.suite a ((a, oe) :: pn)) [e2] [t]) (hg : Gl X "isinstance" := by rfl) (hs : starEach [.Name en pe, e2] X.env = (false, eval (.Name en pe) X.env) :: starEach [e2] X.env := by rfl)
    (hpl : (backTo pos (starEach [e2] X.env)).any (·.1) = false := by rfl) :
    ME (Z.atF a dd xs g) (X.suite a ((a, oe) :: pn)) W0 (.Call (.Name "isinstance" p) [.Name en pe, e2] [] pos) (dIsF n c i [t]) := by
  refine ⟨_, pe_callB (X := X.suite a ((a, oe) :: pn)) (call_isXF (X := X) (a := a) (dd := dd) (pn := pn) xt hc hz hf) hg hm (by decide +kernel) (pa_cons (X := X.suite a ((a, oe) :: pn)) hv hcl.pa hs) (he := hs) (hpl := hpl), fun S σ H env st Q r p => ?_⟩
  obtain ⟨⟨g', e⟩, h1, p2⟩ := dIsF_some p
  obtain ⟨x, k1, k2⟩ := r.sl i _ e
  refine ⟨x, k1, ?_⟩
  obtain ⟨f, B, ex, ⟨rfl, _, rfl⟩, hB⟩ := k2
  rw [ex]
  exact ⟨[t], h1, ⟨xs, (hB _ List.mem_cons_self).2⟩, .inl ⟨t, rfl, rfl⟩, p2 _ S H (Ext.refl _ _) r.wf r.str (by simp only [rpE, RR, Rep])⟩
theorem me_isFT {Ds : List Nat} {n c i k1 : Nat} {en : Str} {es : List Expr} {ts : List (Option Nat)} {xs : List (Str × V)} {g : FV} {p pe pt pos : Pos} (xt : XT X.K Z Ds n) (hc : c ∈ Ds) (hz : Zc (.ref (Z.cls c)) (some dd) oe) (hf : ∃ vs, oe.data = .fields vs) (hm : X.mg "isinstance" = none)
    (hv : PE (X.suite a ((a, oe) :: pn)) (.Name en pe) (tVar i)) (hcl : CL Z (X.suite a ((a, oe) :: pn)) es ts) (hl : ts.length ≤ 1000 := by decide) (hg : Gl X "isinstance" := by rfl) (hs : starEach [.Name en pe, .Tuple es k1 pt] X.env = (false, eval (.Name en pe) X.env) :: starEach [.Tuple es k1 pt] X.env := by rfl)
    (hs2 : starEach [.Tuple es k1 pt] X.env = (false, eval (.Tuple es k1 pt) X.env) :: starEach [] X.env := by rfl)
    (hpl : (backTo pos (starEach [.Tuple es k1 pt] X.env)).any (·.1) = false := by rfl) :
    ME (Z.atF a dd xs g) (X.suite a ((a, oe) :: pn)) W0 (.Call (.Name "isinstance" p) [.Name en pe, .Tuple es k1 pt] [] pos) (dIsF n c i ts) := by
  refine ⟨_, pe_callB (X := X.suite a ((a, oe) :: pn)) (call_isXF (X := X) (a := a) (dd := dd) (pn := pn) xt hc hz hf) hg hm (by decide +kernel) (pa_cons (X := X.suite a ((a, oe) :: pn)) hv (pa_cons (X := X.suite a ((a, oe) :: pn)) (pe_tup hcl.pa) pa_nil hs2) hs) (he := hs) (hpl := hpl), fun S σ H env st Q r p => ?_⟩
  obtain ⟨⟨g', e⟩, h1, p2⟩ := dIsF_some p
  obtain ⟨x, k1, k2⟩ := r.sl i _ e
  refine ⟨x, k1, ?_⟩
  obtain ⟨f, B, ex, ⟨rfl, _, rfl⟩, hB⟩ := k2
  rw [ex]
  refine ⟨small_line (by rw [List.length_map]; exact hl), fun tp hp => ?_⟩
  have x1 := ExtP.newF (o := .tup (ts.map (clV Z))) r.wf hp trivial
  have nd : dd ≠ tp := fun z => by
    have := (hB _ List.mem_cons_self).2
    rw [z, hp] at this
    cases this
  exact ⟨ts, h1, ⟨xs, by rw [upd_ne nd]; exact (hB _ List.mem_cons_self).2⟩, .inr ⟨tp, rfl, upd_same⟩, p2 _ _ _ x1.ext x1.wf (r.str.extP x1) (by simp only [rpE, RR, Rep])⟩
/-- e.f -/
@[simp] def dXf (f : Str) (i : Nat) : DE := fun env st => match env[i]? with
  | some (some (.fnv g)) => match g [.str f] st with
    | .ok (.int j) _ => .ok (.val (.int j)) st
    | _ => .bad
  | _ => .bad
/-- what the fields stand for -/
def HgX (xs : List (Str × V)) (g : FV) : Prop := ∀ f j st st', g [.str f] st = .ok (.int j) st' → xs.lookup f = some (.int j)
theorem me_xf {c i : Nat} {en f : Str} {xs : List (Str × V)} {g : FV} {pe pos : Pos} (T : XfC X.K (Z.cls c)) (hno : PySem.W.findIn X.K (.ref (Z.cls c)) f = some none) (hz : Zc (.ref (Z.cls c)) (some dd) oe) (hf : ∃ vs, oe.data = .fields vs) (hx : HgX xs g)
    (hv : PE (X.suite a ((a, oe) :: pn)) (.Name en pe) (tVar i)) (hb : attributeBase (.Name en pe) f X.env (eval (.Name en pe) X.env) = eval (.Name en pe) X.env := by rfl) :
    ME (Z.atF a dd xs g) (X.suite a ((a, oe) :: pn)) W0 (.Attribute (.Name en pe) f pos) (dXf f i) := by
  refine ⟨_, pe_xf (X := X) (a := a) (pn := pn) T hno hz hf hv hb, fun S σ H env st Q r p => ?_⟩
  unfold dXf at p
  split at p
  · rename_i g' e
    split at p
    · rename_i j st' eg
      obtain ⟨x, k1, k2⟩ := r.sl i _ e
      obtain ⟨f', B, ex, ⟨rfl, rfl, rfl⟩, hB⟩ := k2
      refine ⟨x, k1, ex, rfl, dd, xs, .int j, rfl, (hB _ List.mem_cons_self).2, hx _ _ _ _ eg, ?_⟩
      exact p _ S H (Ext.refl _ _) r.wf r.str (by simp only [rpE, RR, Rep])
    · exact p.elim
  · exact p.elim
end
section
variable {K : PySem.W.Frag} {Z : Stc} {S : Gh} {H : Hp} {W : WX}
abbrev Stc.to (Z : Stc) (a : Addr) (cl : Addr → FV → List (Addr × HO) → Prop) : Stc := { Z with ea := a, cal := cl }
mutual
theorem Rep.to {a : Addr} {cl : Addr → FV → List (Addr × HO) → Prop} : ∀ (v : Val) (x : V), Rep K Z S v x → Rep K (Z.to a cl) S v x
  | .non, _, h => by simpa only [Rep] using h
  | .bl _, _, h => by simpa only [Rep] using h
  | .int _, _, h => by simpa only [Rep] using h
  | .str _, _, h => by simpa only [Rep] using h
  | .tup vs, x, h => by
    simp only [Rep] at h ⊢
    obtain ⟨b, xs, e, q, r⟩ := h
    exact ⟨b, xs, e, q, RepL.to vs xs r⟩
  | .lst vs, x, h => by
    simp only [Rep] at h ⊢
    obtain ⟨b, xs, e, q, r⟩ := h
    exact ⟨b, xs, e, q, RepL.to vs xs r⟩
  | .slst vs, x, h => by
    simp only [Rep] at h ⊢
    obtain ⟨b, xs, e, q, r⟩ := h
    exact ⟨b, xs, e, q, RepL.to vs xs r⟩
  | .dic ks vs, x, h => by
    simp only [Rep] at h ⊢
    obtain ⟨b, xs, e, q, k, r⟩ := h
    exact ⟨b, xs, e, q, k, RepL.to vs _ r⟩
  | .obj i, x, h => by simpa only [Rep] using h
  | .fn n, x, h => by simpa only [Rep] using h
theorem RepL.to {a : Addr} {cl : Addr → FV → List (Addr × HO) → Prop} : ∀ (vs : List Val) (xs : List V), RepL K Z S vs xs → RepL K (Z.to a cl) S vs xs
  | [], _, h => by simpa only [RepL] using h
  | v :: vs, xs, h => by
    simp only [RepL] at h ⊢
    obtain ⟨x, r, e, h1, h2⟩ := h
    exact ⟨x, r, e, Rep.to v x h1, RepL.to vs r h2⟩
end
theorem SlR.to {a : Addr} {cl : Addr → FV → List (Addr × HO) → Prop} {s : Slot} {x : V} (h : SlR K Z S H s x) (hn : ∀ c, s ≠ .exn c) (hf : ∀ g, s ≠ .fnv g) : SlR K (Z.to a cl) S H s x := by
  cases s with
  | val v => exact Rep.to v x h
  | exn c => exact absurd rfl (hn c)
  | fnv g => exact absurd rfl (hf g)
  | own vs => obtain ⟨l, xs, e1, q, g, r⟩ := h; exact ⟨l, xs, e1, q, g, RepL.to _ _ r⟩
  | brw vs => obtain ⟨l, xs, e1, q, r⟩ := h; exact ⟨l, xs, e1, q, RepL.to _ _ r⟩
  | ownd ks vs => obtain ⟨l, xs, e1, q, g, k, r⟩ := h; exact ⟨l, xs, e1, q, g, k, RepL.to _ _ r⟩
  | brwd ks vs => obtain ⟨l, xs, e1, q, k, r⟩ := h; exact ⟨l, xs, e1, q, k, RepL.to _ _ r⟩
  | lkd ks vs => obtain ⟨l, xs, e1, q, k, r⟩ := h; exact ⟨l, xs, e1, q, k, RepL.to _ _ r⟩
theorem StR.to {a : Addr} {cl : Addr → FV → List (Addr × HO) → Prop} {st : Store} (h : StR K Z S H st) : StR K (Z.to a cl) S H st :=
  ⟨h.tab, h.len, h.nd, h.dl, fun i o e => by
    rcases h.ob i o e with ⟨b, dx, fs, hc, ha, hd', hh, hf⟩ | ⟨vs, e, b, xs, ha, hd', hh, hf⟩ | ⟨ks, vs, e, b, kxs, ha, hd', hh, hk, hf⟩ | ⟨e, b, ha, hd'⟩
    · exact .ins b dx fs hc ha hd' hh ⟨hf.1, RepL.to _ _ hf.2⟩
    · exact .lst vs e b xs ha hd' hh (RepL.to _ _ hf)
    · exact .dic ks vs e b kxs ha hd' hh hk (RepL.to _ _ hf)
    · exact .no e b ha hd'⟩
theorem RRs.to {env : Evn} {σ : L2.St} {H0 : Hp} {r : R} {x : V} {a : Addr} {cl : Addr → FV → List (Addr × HO) → Prop} (h : RRs K Z env σ H0 S H r x) : RRs K (Z.to a cl) env σ H0 S H r x := by
  cases r with
  | val v => exact Rep.to v x h
  | own vs => obtain ⟨l, xs, e1, e2, e3, e4, e5⟩ := h; exact ⟨l, xs, e1, e2, e3, e4, RepL.to _ _ e5⟩
  | ownd ks vs => obtain ⟨l, xs, e1, e2, e3, e4, k, e5⟩ := h; exact ⟨l, xs, e1, e2, e3, e4, k, RepL.to _ _ e5⟩
def unSF : Option Slot → Option Slot
  | some (.exn _) => none
  | some (.fnv _) => none
  | s => s
@[simp] theorem unSF_none : unSF none = none := rfl
@[simp] theorem unSF_val (v) : unSF (some (.val v)) = some (.val v) := rfl
@[simp] theorem unSF_own (v) : unSF (some (.own v)) = some (.own v) := rfl
@[simp] theorem unSF_brw (v) : unSF (some (.brw v)) = some (.brw v) := rfl
@[simp] theorem unSF_ownd (k v) : unSF (some (.ownd k v)) = some (.ownd k v) := rfl
@[simp] theorem unSF_brwd (k v) : unSF (some (.brwd k v)) = some (.brwd k v) := rfl
@[simp] theorem unSF_lkd (k v) : unSF (some (.lkd k v)) = some (.lkd k v) := rfl
@[simp] theorem unSF_exn (c) : unSF (some (.exn c)) = none := rfl
@[simp] theorem unSF_fnv (c) : unSF (some (.fnv c)) = none := rfl
@[simp] def unXF (env : Evn) : Evn := env.map unSF
theorem unXF_get {env : Evn} {i : Nat} {t : Slot} (h : (unXF env)[i]? = some (some t)) : env[i]? = some (some t) ∧ (∀ c, t ≠ .exn c) ∧ ∀ g, t ≠ .fnv g := by
  simp only [unXF, List.getElem?_map] at h
  cases e : env[i]? with
  | none => rw [e] at h; cases h
  | some s =>
    rw [e] at h
    have h' : unSF s = some t := by simpa using h
    cases s with
    | none => cases h'
    | some s => cases s <;> first | (cases h'; exact ⟨rfl, (fun _ z => by cases z), (fun _ z => by cases z)⟩) | (cases h'; done)
theorem SR.unF {σ env st} (r : SR K Z S σ H env st) (a : Addr) (cl : Addr → FV → List (Addr × HO) → Prop) : SR K (Z.to a cl) S σ H (unXF env) st :=
  ⟨r.wf, r.str.to, by simp only [unXF, List.length_map]; exact r.len, fun i s h => by
    obtain ⟨h1, h2, h3⟩ := unXF_get h
    obtain ⟨x, k1, k2⟩ := r.sl i s h1
    exact ⟨x, k1, k2.to h2 h3⟩, fun i j si sj l nij h1 o1 h2 a2 q1 q2 => r.sep i j si sj l nij (unXF_get h1).1 o1 (unXF_get h2).1 a2 q1 q2⟩
theorem extS_unXF (S : Gh) (H : Hp) (env : Evn) (σ : L2.St) : ExtS S H env σ S H (unXF env) σ :=
  ⟨⟨[], by simp⟩, Same.refl _, fun a h => .inl h, fun _ _ h _ _ => h, fun _ h => h, fun _ h => .inl h,
    fun a ⟨i, s, e, o, q⟩ => .inl ⟨i, s, (unXF_get e).1, o, q⟩, by simp only [unXF, List.length_map], fun i s h _ _ => ⟨(unXF_get h).1, rfl⟩⟩
/-- behind the suite -/
@[simp] def unFO (i : Nat) : OutS → OutS
  | .nx e st => .nx (unXF (e.set i none)) st
  | .bk e st => .bk (unXF (e.set i none)) st
  | .ct e st => .ct (unXF (e.set i none)) st
  | .rt r st => .rt r st
  | _ => .bad
def tryFO (Ds : List Nat) (n k i : Nat) (su : Nat → FV → DS) : OutS → OutS
  | .exc c fs e st => if fs ≠ [] ∧ Ds.contains c = true ∧ k < n ∧ i < e.length then (if subc c k = true then unFO i (su c (gX fs) ((unXF e).set i (some (.fnv (gX fs)))) st) else .exc c fs e st) else .bad
  | o => o
@[simp] def dTryF (Ds : List Nat) (n k i : Nat) (b : DS) (su : Nat → FV → DS) : DS := fun env st => tryFO Ds n k i su (b env st)
theorem hgX_of {xs : List (Str × V)} {fs : List (Str × Val)} (h : FsR K Z S xs fs) : HgX xs (gX fs) := by
  intro f j st st' e
  obtain ⟨h1, h2⟩ := h
  unfold gX at e
  simp only at e
  induction fs generalizing xs with
  | nil => simp at e
  | cons p fs ih =>
    obtain ⟨k, v⟩ := p
    cases xs with
    | nil => simp at h1
    | cons q xs =>
      obtain ⟨k', y⟩ := q
      simp only [List.map_cons, List.cons.injEq] at h1
      simp only [List.map_cons, RepL] at h2
      obtain ⟨x', r', e1, r1, r2⟩ := h2
      obtain ⟨rfl, rfl⟩ := List.cons.inj e1
      obtain ⟨rfl, h1⟩ := h1
      by_cases hk : f == k' 
      · simp only [List.lookup, hk] at e ⊢
        cases v <;> first | (cases e; done) | skip
        cases e
        simp only [Rep] at r1
        rw [r1]
      · have hk' : (f == k') = false := by simpa using hk
        simp only [List.lookup, hk'] at e ⊢
        exact ih e h1 r2
end
section
variable {Z : Stc} {X : Cx} {W : WX}
def tSuF (K : PySem.W.Frag) (Z : Stc) (Ds : List Nat) (su : Nat → FV → DS) (a : Addr) (cls : Value) (d : Option Addr) : TS := fun D σ H => ∃ c dd xs g, c ∈ Ds ∧ cls = .ref (Z.cls c) ∧ d = some dd ∧ HgX xs g ∧ tOfS K (Z.atF a dd xs g) W0 (su c g) D σ H
theorem ms_tryF {Ds : List Nat} {n k i : Nat} {x nm : Str} {body suite : List Stmt} {b₀ : Stmt} {np pos pos' : Pos} {db : DS} {su : Nat → FV → DS}
    (hs : X.stack = X.env :: X.outer) (hf : X.env.frame = some X.env.locals) (hN : X.N.Nodup) (hi : X.N[i]? = some nm) (hln : X.env.kindOf nm = some .local) (hc : Names X x (.ref (Z.cls k))) (tk : Takes X W) (xt : XT X.K Z Ds n)
    (hb : ∀ (W : WX) (pn : List (Addr × Obj)) (xe : Value → Shared → Prop), Takes (X.tr pn xe) W → PassesOwn (model X.prog X.w) X.A X.env xe → MSs Z (X.tr pn xe) W body db)
    (hsu : ∀ (a : Addr) (oe : Obj) (c : Nat) (dd : Addr) (xs : List (Str × V)) (g : FV) (pn : List (Addr × Obj)), c ∈ Ds → Zc (.ref (Z.cls c)) (some dd) oe → (∃ vs, oe.data = .fields vs) → HgX xs g → MSs (Z.atF a dd xs g) (X.suite a ((a, oe) :: pn)) W0 (b₀ :: suite) (su c g)) :
    MS Z X W (.Try body [.ExceptHandler (some (.Name x np)) (some nm) (b₀ :: suite) pos'] [] [] pos) (dTryF Ds n k i db su) := by
  refine ⟨_, ps_try_as (tb := fun W => tOfS X.K Z W db) (ts := tSuF X.K Z Ds su) hs hf hN hi hln hc tk (fun W pn xe t p => pss_of (X := X.tr pn xe) (hb W pn xe t p)) (fun a oe cls d pn hz hv => ⟨fun pins s σ H D I h => ?_⟩), fun S σ H env st D r p => ?_⟩
  · obtain ⟨c, dd, xs, g, hcD, rfl, rfl, hg, h⟩ := h
    exact (pss_of (X := X.suite a ((a, oe) :: pn)) (hsu a oe c dd xs g pn hcD hz hv hg)).run pins s σ H D I h
  · refine ⟨S, env, st, r, ?_⟩
    simp only [dTryF] at p
    cases e : db env st with
    | bad => simp only [e, tryFO, PostS] at p
    | nx e1 s1 => simp only [e, tryFO] at p; exact p
    | bk e1 s1 => simp only [e, tryFO] at p; exact p
    | ct e1 s1 => simp only [e, tryFO] at p; exact p
    | rt r1 s1 => simp only [e, tryFO] at p; exact p
    | exc c fs e1 s1 =>
      simp only [e, tryFO] at p
      split at p
      case isFalse => exact p.elim
      rename_i hg
      obtain ⟨hne, hcD, hk, hi'⟩ := hg
      have hcD' : c ∈ Ds := by simpa using hcD
      intro cls d S' σ' H' x1 r1 xr
      obtain ⟨rfl, hd⟩ := xr
      obtain ⟨dd, xs, hd1, hdd, hfr⟩ : ∃ dd xs, d = some dd ∧ H' dd = some (.xd xs) ∧ FsR X.K Z S' xs fs := by
        rcases hd with hd | ⟨dd, xs, _, z1, z2, z3⟩
        · exact absurd hd.1 hne
        · exact ⟨dd, xs, z1, z2, z3⟩
      refine ⟨subc c k, xt.exm c hcD' k hk, fun hb1 a na => ?_, fun hb0 => ?_⟩
      · rw [if_pos hb1] at p
        refine ⟨c, dd, xs, gX fs, hcD', rfl, hd1, hgX_of hfr, S', (unXF e1).set i (some (.fnv (gX fs))), s1, ?_, ?_⟩
        · have q := r1.unF a (fun f g' B => f = a ∧ g' = gX fs ∧ B = [(dd, .xd xs)])
          refine q.set (s := .fnv (gX fs)) (x := .ref a) (by simpa only [unXF, List.length_map] using hi') ?_ fun z => by cases z
          exact ⟨a, [(dd, .xd xs)], rfl, ⟨rfl, rfl, rfl⟩, fun p hp => by rw [List.mem_singleton.mp hp]; exact ⟨trivial, hdd⟩⟩
        · have x2 : ExtS S H env σ S' H' ((unXF e1).set i (some (.fnv (gX fs)))) (σ'.set i (some (.ref a))) := (x1.trans (extS_unXF S' H' e1 σ')).set (s := .fnv (gX fs)) (fun z => by cases z) fun z => by cases z
          have p2 := p
          cases es : su c (gX fs) ((unXF e1).set i (some (.fnv (gX fs)))) s1 with
          | bad => simp only [es, unFO, PostS] at p2
          | exc c2 fs2 e2 s2 => simp only [es, unFO, PostS] at p2
          | rt r2 s2 =>
            simp only [es, unFO] at p2
            refine fun y S2 H2 x3 w3 s3 q3 => PostS.later x2 p2 y S2 H2 x3 w3 (StR.to (Z := Z.atF a dd xs (gX fs)) (a := Z.ea) (cl := Z.cal) s3) (RRs.to (Z := Z.atF a dd xs (gX fs)) (a := Z.ea) (cl := Z.cal) q3)
          | nx e2 s2 =>
            simp only [es, unFO] at p2
            exact fun S2 σ2 H2 x3 r3 => PostS.later x2 p2 S2 (σ2.set i none) H2 ((x3.trans (extS_setNone S2 H2 e2 σ2 i)).trans (extS_unXF S2 H2 _ _)) ((r3.setNone i).unF Z.ea Z.cal)
          | bk e2 s2 =>
            simp only [es, unFO] at p2
            exact fun S2 σ2 H2 x3 r3 => PostS.later x2 p2 S2 (σ2.set i none) H2 ((x3.trans (extS_setNone S2 H2 e2 σ2 i)).trans (extS_unXF S2 H2 _ _)) ((r3.setNone i).unF Z.ea Z.cal)
          | ct e2 s2 =>
            simp only [es, unFO] at p2
            exact fun S2 σ2 H2 x3 r3 => PostS.later x2 p2 S2 (σ2.set i none) H2 ((x3.trans (extS_setNone S2 H2 e2 σ2 i)).trans (extS_unXF S2 H2 _ _)) ((r3.setNone i).unF Z.ea Z.cal)
      · rw [if_neg (by rw [hb0]; exact Bool.false_ne_true)] at p
        exact p (.ref (Z.cls c)) d S' σ' H' x1 r1 ⟨rfl, hd⟩
end
end Eg

/-! list(reversed(x)), x a list. -/
namespace Eg
open PySem PySem.Spec PyProof.Rows RT
section
variable {prog : Program} {w : World} {A : Around} {E : Value → Shared → Prop} {s : Shared}
theorem call_list_rev {it l : Addr} {items : Array Value} {Q : Value → Shared → Prop} (hh : A.handled = none) (hit : s.heap.IsRevIter it l ((items.size : Int) - 1)) (hl : s.heap.IsList l items) (hne : l ≠ it) (hn : items.size ≤ sizeLine)
    (hQ : ∀ (h' : Heap) (tk : Nat) (acc : Array Value) (c' : Nat), (∀ b o, b ≠ it → s.heap.get? b = some o → h'.get? b = some o) → h'.get? s.heap.objs.size = some { cls := .type "list", dict := none, data := .seq acc c', slots := #[] } →
      ItemsOf (fun i v => items[items.size - 1 - i]? = some v) acc items.size → Q (.ref s.heap.objs.size) { s with heap := h', toks := tk }) :
    wpAny (model prog w) A (call (.type "list") [.ref it]) Q E s := by
  refine callType_codes (Q₁ := fun obj s₁ => obj = .ref s.heap.objs.size ∧ s₁ = { s with heap := s.heap.push { cls := .type "list", data := .seq #[] } }) F.called_list (F.typeCall_list_1 _) F.entry_list_init
    (code_list_new _ ⟨rfl, rfl⟩) fun obj s₁ h₁ => ?_
  obtain ⟨rfl, rfl⟩ := h₁
  have hS : (s.heap.push { cls := .type "list", data := .seq #[] }).get? s.heap.objs.size = some { cls := .type "list", data := .seq #[] } := Heap.get?_push_size _ rfl
  refine ⟨⟨_, hS, rfl⟩, F.args_list_init_2 _ _, ?_⟩
  have W := (Walks.listRev (prog := prog) (w := w) (A := A.in1.in1) hh it l hne items).toS
  obtain ⟨oi, hoi, _⟩ := id hit
  obtain ⟨ol, hol, _⟩ := id hl
  have hSi : s.heap.objs.size ≠ it := Nat.ne_of_gt (Heap.lt_size hoi)
  have hSl : s.heap.objs.size ≠ l := Nat.ne_of_gt (Heap.lt_size hol)
  have hSf : s.heap.objs.size ∉ [it, l] := by simp only [List.mem_cons, List.not_mem_nil, or_false, not_or]; exact ⟨hSi, hSl⟩
  show wpAny _ _ (do let old ← Builtin.List.listItems (.ref s.heap.objs.size); Builtin.List.listUpdate (.ref s.heap.objs.size) (fun _ => #[]); letGo old.toList.reverse; Builtin.List.listExtendWith (.ref s.heap.objs.size) (.ref it) .none) _ _ _
  refine wpAny_bind ?_
  unfold Builtin.List.listItems
  refine wpAny_bind (wpAny_seqItems hS rfl (wpAny_pure ?_))
  show wpAny _ _ (updateSeq s.heap.objs.size (fun _ => #[]) >>= fun _ => letGo (#[] : Array Value).toList.reverse >>= fun _ => Builtin.List.listExtendWith (.ref s.heap.objs.size) (.ref it) .none) _ _ _
  refine wpAny_bind (wpAny_updateSeq hS rfl ?_)
  have hS₁ := Heap.get?_update_self (Obj.mapSeq (fun _ => (#[] : Array Value))) hS rfl
  have oth : ∀ b o, b ≠ s.heap.objs.size → s.heap.get? b = some o → ((s.heap.push { cls := .type "list", data := .seq #[] }).update s.heap.objs.size (Obj.mapSeq (fun _ => (#[] : Array Value)))).get? b = some o :=
    fun b o hb e => (Heap.get?_update_other _ _ (Ne.symm hb)).trans (Heap.get?_push_of_some _ e)
  refine wpAny_bind (wpAny_letGo ?_)
  generalize hg : (s.heap.push { cls := .type "list", data := .seq #[] }).update s.heap.objs.size (Obj.mapSeq (fun _ => (#[] : Array Value))) = g at hS₁ oth ⊢
  have hit1 : g.IsRevIter it l ((items.size : Int) - 1) := hit.at fun o e => oth _ _ (Ne.symm hSi) e
  have hl1 : g.IsList l items := by
    obtain ⟨o, h1, h2⟩ := hl
    exact ⟨o, oth _ _ (Ne.symm hSl) h1, h2⟩
  have hT : ({ s with heap := g } : Shared).TypeIs (.ref it) "list_reverseiterator" := Heap.IsRevIter.typeIs (s := { s with heap := g }) hit1
  have h1 : Builtin.List.listSameRef (.ref s.heap.objs.size) (.ref it) = false := by simp [Builtin.List.listSameRef, hSi]
  unfold Builtin.List.listExtendWith
  refine wpAny_bind (wpAny_typeOf hT ?_)
  rw [if_neg (by rw [h1]; decide)]
  refine wpAny_bind (wpAny_pyIter_revIter (s := { s with heap := g }) hit1 ?_)
  refine wpAny_bind (wpAny_holding ?_)
  unfold Builtin.List.listLengthHint
  refine wpAny_bind (wpAny_specialOf hT nolen_lri ?_)
  show wpAny _ _ (specialOf (Value.ref it) (Str.ofString "__length_hint__") >>= _) _ _ _
  refine wpAny_bind (wpAny_specialOf hT hint_lri ?_)
  generalize hid : ("list_reverseiterator.__length_hint__" : String) = id0
  wp_delta
  rw [show splitId id0 = some ("list_reverseiterator", "__length_hint__") from by subst hid; decide +kernel]
  subst hid
  refine wpAny_bind (wpAny_isInstance (b := true) hT (by rw [isSubtype_type]; kernel_rfl) ?_)
  refine wpAny_pure ?_
  rw [if_neg (by decide)]
  have e0 : ((items.size : Nat) : Int) - 1 - ((0 : Nat) : Int) = (items.size : Int) - 1 := by omega
  refine wpAny_pure ⟨plainId_quiet F.plain_extend_loop _, codeAny_extend_loopS W hn _ hSf _ items.size 0 _ _ _ rfl (Nat.zero_le _) ⟨Nat.zero_le _, by rw [e0]; exact hit1, hl1⟩ hS₁ (ItemsOf.nil _) fun s' acc' c' hm hS' hacc => ?_⟩
  refine ⟨rfl, ?_⟩
  rw [Moved.eq_with hm]
  refine hQ s'.heap s'.toks acc' c' (fun b o hb e => hm.heap b o (fun hmem => ?_) (oth b o (Nat.ne_of_lt (Heap.lt_size e)) e)) hS' hacc
  rcases List.mem_cons.mp hmem with e' | hmem
  · exact absurd (Heap.lt_size e) (by rw [e']; exact Nat.lt_irrefl _)
  · exact hb (List.mem_singleton.mp hmem)
end
section
open L2
variable {X : Cx}
def tLRev (K : PySem.W.Frag) (te : TE) : TE := fun σ H Q => te σ H fun v H1 => ∃ (a : Addr) (xs : List V), v = .ref a ∧ SqL K H1 a xs ∧ ∀ q, H1 q = none → Q (.ref q) (upd H1 q (.lst xs.reverse))
theorem pe_listRev {e : Expr} {te : TE} {p p2 pos pos2 : Pos} (hc : X.calm = true) (hg : Gl X "list") (hm : X.mg "list" = none) (hg2 : Gl X "reversed") (hm2 : X.mg "reversed" = none) (he : PE X e te)
    (hs : starEach [e] X.env = (false, eval e X.env) :: starEach [] X.env := by rfl)
    (hs2 : starEach [.Call (.Name "reversed" p2) [e] [] pos2] X.env = (false, eval (.Call (.Name "reversed" p2) [e] [] pos2) X.env) :: starEach [] X.env := by rfl) :
    PE X (.Call (.Name "list" p) [.Call (.Name "reversed" p2) [e] [] pos2] [] pos) (tLRev X.K te) := by
  refine ⟨fun pins s σ H Q I h => ?_⟩
  refine Call_ (ld_blt I hg hm boot_list (PyProof.Rows.callWith_type1 (args_cons (Call_ (ld_blt I hg2 hm2 PyProof.Rows.boot_reversed (PyProof.Rows.callWith_type1 (args_cons (thn (he.run pins s σ H _ I h) fun u s1 ⟨v, H1, I1, r1, q1⟩ => args_nil ?_) hs) hs rfl))) hs2) hs2 rfl))
  obtain ⟨a, xs, ev, hq, q⟩ := q1
  subst ev
  obtain rfl : u = Value.ref a := r1
  obtain ⟨its, rv, p', hz⟩ := I1.list hq
  refine call_reversed_list p'.isList (args_nil ?_)
  have k0 : ∀ b o, s1.heap.get? b = some o → (s1.heap.push (revObj a ((its.toArray.size : Int) - 1))).get? b = some o := fun b o e => Heap.get?_push_of_some _ e
  have hl := p'.isList
  obtain ⟨ol, hol, _⟩ := id hl
  have hne : a ≠ s1.heap.objs.size := Nat.ne_of_lt (Heap.lt_size hol)
  have hn : its.toArray.size ≤ sizeLine := by rw [List.size_toArray, ← rv.length]; exact hz
  refine call_list_rev (s := { s1 with heap := s1.heap.push (revObj a ((its.toArray.size : Int) - 1)) }) (I1.ok.hd hc) ⟨_, Heap.get?_push_size _ rfl, rfl, rfl⟩ (hl.push _) hne hn fun h' tk acc c' hk hg' hi => ?_
  have kk : ∀ b o, s1.heap.get? b = some o → h'.get? b = some o := fun b o e => hk b o (Nat.ne_of_lt (Heap.lt_size e)) (k0 b o e)
  have hle : s1.heap.objs.size ≤ (s1.heap.push (revObj a ((its.toArray.size : Int) - 1))).objs.size := by rw [Heap.size_push]; exact Nat.le_succ _
  refine ⟨.ref (s1.heap.push (revObj a ((its.toArray.size : Int) - 1))).objs.size, upd H1 (s1.heap.push (revObj a ((its.toArray.size : Int) - 1))).objs.size (.lst xs.reverse), I1.laid (t' := tk) kk hle (show ObjOk X.prog X.w _ _ _ (.lst xs.reverse) from ⟨by rw [List.length_reverse]; exact hz, acc.toList, c', vals_rev rv hi, ?_⟩), rfl, q _ (I1.hok.fresh hle)⟩
  rw [Array.toArray_toList]
  exact hg'
end
section
open L2
variable {Z : Stc} {X : Cx} {W : WX}
theorem repL_app {K : PySem.W.Frag} {S : Gh} : ∀ {vs ws : List Val} {xs ys : List V}, RepL K Z S vs xs → RepL K Z S ws ys → RepL K Z S (vs ++ ws) (xs ++ ys)
  | [], ws, xs, ys, h, h' => by
    simp only [RepL] at h
    subst h
    exact h'
  | v :: vs, ws, xs, ys, h, h' => by
    simp only [RepL] at h
    obtain ⟨x, r, rfl, h1, h2⟩ := h
    simp only [List.cons_append, RepL]
    exact ⟨x, _, rfl, h1, repL_app h2 h'⟩
theorem repL_revr {K : PySem.W.Frag} {S : Gh} : ∀ {vs : List Val} {xs : List V}, RepL K Z S vs xs → RepL K Z S vs.reverse xs.reverse
  | [], xs, h => by
    simp only [RepL] at h
    subst h
    simp only [List.reverse_nil, RepL]
  | v :: vs, xs, h => by
    simp only [RepL] at h
    obtain ⟨x, r, rfl, h1, h2⟩ := h
    rw [List.reverse_cons, List.reverse_cons]
    refine repL_app (repL_revr h2) ?_
    simp only [RepL]
    exact ⟨x, _, rfl, h1, rfl⟩
@[simp] def dRevL (d : DP) : DE := fun env st => (d env st).bind fun v st1 => match v with
  | .lst vs => .ok (.own vs.reverse) st1
  | _ => .bad
theorem me_listRev {e : Expr} {d : DP} {p p2 pos pos2 : Pos} (hc : X.calm = true) (hm : X.mg "list" = none) (hm2 : X.mg "reversed" = none) (h : MP Z X W e d) (hg : Gl X "list" := by rfl) (hg2 : Gl X "reversed" := by rfl)
    (hs : starEach [e] X.env = (false, eval e X.env) :: starEach [] X.env := by rfl)
    (hs2 : starEach [.Call (.Name "reversed" p2) [e] [] pos2] X.env = (false, eval (.Call (.Name "reversed" p2) [e] [] pos2) X.env) :: starEach [] X.env := by rfl) :
    ME Z X W (.Call (.Name "list" p) [.Call (.Name "reversed" p2) [e] [] pos2] [] pos) (dRevL d) := by
  obtain ⟨t, h1, h2⟩ := h
  refine ⟨_, pe_listRev hc hg hm hg2 hm2 h1 hs hs2, fun S σ H env st Q r po => h2 S σ H env st _ r ?_⟩
  simp only [dRevL] at po
  cases ed : d env st with
  | bad => simp only [ed, Out.bind, Post] at po
  | exc c fs st1 =>
    simp only [ed, Out.bind, Post] at po ⊢
    exact po
  | ok v st1 =>
    simp only [ed, Out.bind] at po
    intro x S1 H1 e1 w1 s1 q
    cases v with
    | lst vs =>
      simp only at po
      obtain ⟨a, xs, rfl, hs, r1⟩ := lst_rep w1 q.p (show lstOf (.lst vs) = some vs from rfl)
      refine ⟨a, xs, rfl, hs, fun pp hp => ?_⟩
      have E := ExtP.new w1 hp (o := .lst xs.reverse)
      refine po _ S1 _ (e1.trans E.ext) E.wf (s1.extP E) ?_
      exact ⟨pp, _, rfl, upd_same, ng_none w1 hp, none_of_live e1.live hp, repL_revr r1⟩
    | _ => simp only [Post] at po
end
end Eg

/-! Dicts: displayed empty, read, asked, stored into, walked, copied; a field added to. -/
namespace Eg
open PySem L2
@[simp] def keyOf : Val → Option Key
  | .int i => some (.inl i) | .str s => some (.inr s) | _ => none
def lookK : List Key → List Val → Key → Option Val
  | k :: ks, v :: vs, q => if k = q then some v else lookK ks vs q
  | _, _, _ => none
def replV : List Key → List Val → Key → Val → List Val
  | k :: ks, v :: vs, q, w => (if k = q then w else v) :: replV ks vs q w
  | _, _, _, _ => []
def putKs (ks : List Key) (vs : List Val) (q : Key) (w : Val) : List Key × List Val := if (ks.any fun k => decide (k = q)) = true then (ks, replV ks vs q w) else (ks ++ [q], vs ++ [w])
@[simp] def keyV : Key → Val
  | .inl i => .int i | .inr s => .str s
section
variable {K : PySem.W.Frag} {Z : Stc} {S S1 : Gh} {H H1 : Hp} {W : WX}
theorem key_rep {v : Val} {k : Key} {x : V} (e : keyOf v = some k) (h : PRep K Z S H v x) : x = kV k := by
  cases v with
  | int i =>
    cases e
    have e : x = V.int i := by simpa only [PRep, Rep] using h
    rw [e]; rfl
  | str i =>
    cases e
    have e : x = V.str i := by simpa only [PRep, Rep] using h
    rw [e]; rfl
  | _ => cases e
theorem rep_key {k : Key} : Rep K Z S (keyV k) (kV k) := by
  cases k <;> simp only [keyV, kV, Rep]
theorem look_rep : ∀ {ks : List Key} {vs : List Val} {kxs : List (Key × V)} {k : Key}, kxs.map (·.1) = ks → RepL K Z S vs (kxs.map (·.2)) →
    (∀ v, lookK ks vs k = some v → ∃ x, valV kxs k = some x ∧ Rep K Z S v x) ∧ (lookK ks vs k = none → valV kxs k = none)
  | ks, vs, [], k, hk, hr => by
    have hk : ks = [] := hk.symm
    have hr : vs = [] := by
      cases vs with
      | nil => rfl
      | cons v vs => simp [RepL] at hr
    subst hk hr
    exact ⟨fun v e => absurd e (by simp [lookK]), fun _ => rfl⟩
  | ks, vs, (q, x) :: kxs, k, hk, hr => by
    cases ks with
    | nil => cases hk
    | cons k' ks =>
      cases vs with
      | nil => simp [RepL] at hr
      | cons v vs =>
        obtain ⟨y, r, e, h1, h2⟩ := repL_uncons hr
        have e : x :: kxs.map (·.2) = y :: r := e
        cases e
        have hk1 : q = k' := (List.cons.inj hk).1
        have hk2 : kxs.map (·.1) = ks := (List.cons.inj hk).2
        subst hk1
        by_cases z : q = k
        · subst z
          rw [valV_pos rfl]
          refine ⟨fun w e => ?_, fun e => ?_⟩
          · simp only [lookK, if_pos] at e
            cases e
            exact ⟨x, rfl, h1⟩
          · simp only [lookK, if_pos] at e
            cases e
        · rw [valV_neg z]
          have ih := look_rep (k := k) hk2 h2
          simp only [lookK, if_neg z]
          exact ih
theorem repl_rep : ∀ {ks : List Key} {vs : List Val} {kxs : List (Key × V)} {k : Key} {w : Val} {x : V}, kxs.map (·.1) = ks → RepL K Z S vs (kxs.map (·.2)) → Rep K Z S w x →
    RepL K Z S (replV ks vs k w) ((kxs.map fun kv => if kv.1 = k then (kv.1, x) else kv).map (·.2))
  | ks, vs, [], k, w, x, hk, hr, hx => by
    have hk : ks = [] := hk.symm
    have hr : vs = [] := by
      cases vs with
      | nil => rfl
      | cons v vs => simp [RepL] at hr
    subst hk hr
    exact repL_nil
  | ks, vs, (q, y) :: kxs, k, w, x, hk, hr, hx => by
    cases ks with
    | nil => cases hk
    | cons k' ks =>
      cases vs with
      | nil => simp [RepL] at hr
      | cons v vs =>
        obtain ⟨y', r, e, h1, h2⟩ := repL_uncons hr
        have e : y :: kxs.map (·.2) = y' :: r := e
        cases e
        have hk1 : q = k' := (List.cons.inj hk).1
        have hk2 : kxs.map (·.1) = ks := (List.cons.inj hk).2
        subst hk1
        have ih := repl_rep (k := k) hk2 h2 hx
        by_cases z : q = k
        · simp only [replV, List.map_cons, if_pos z]
          exact repL_cons hx ih
        · simp only [replV, List.map_cons, if_neg z]
          exact repL_cons h1 ih
theorem put_rep {ks : List Key} {vs : List Val} {kxs : List (Key × V)} {k : Key} {w : Val} {x : V} (hk : kxs.map (·.1) = ks) (hr : RepL K Z S vs (kxs.map (·.2))) (hx : Rep K Z S w x) :
    (putK kxs k x).map (·.1) = (putKs ks vs k w).1 ∧ RepL K Z S (putKs ks vs k w).2 ((putK kxs k x).map (·.2)) := by
  have e : (kxs.any fun kv => decide (kv.1 = k)) = ks.any fun q => decide (q = k) := by
    rw [← hk, List.any_map]
    rfl
  unfold putK putKs
  rw [e]
  by_cases c : (ks.any fun q => decide (q = k)) = true
  · rw [if_pos c, if_pos c]
    refine ⟨?_, repl_rep hk hr hx⟩
    show _ = ks
    rw [← hk, List.map_map]
    apply List.map_congr_left
    intro kv _
    show (if kv.1 = k then (kv.1, x) else kv).1 = kv.1
    split <;> rfl
  · rw [if_neg c, if_neg c]
    refine ⟨by rw [List.map_append, hk]; rfl, ?_⟩
    rw [List.map_append]
    exact repL_append hr (repL_cons hx repL_nil)
end
/-! ### displayed, read, asked -/
@[simp] def dDicE : DE := fun _ st => .ok (.ownd [] []) st
@[simp] def gIxD : Val → Val → Option R
  | .dic ks vs, v => (keyOf v).bind fun k => (lookK ks vs k).map R.val
  | _, _ => none
@[simp] def gInK : Val → Val → Option R
  | v, .dic ks vs => (keyOf v).map fun k => R.val (.bl (lookK ks vs k).isSome)
  | _, _ => none
@[simp] def gNotInK : Val → Val → Option R
  | v, .dic ks vs => (keyOf v).map fun k => R.val (.bl (!(lookK ks vs k).isSome))
  | _, _ => none
section
variable {Z : Stc} {X : Cx} {W : WX}
theorem room1 {k : Nat} {A : Around} (r : Room k A) : A.units + 1 < cLine := by have := r.un; omega
theorem me_dicE {pos : Pos} : ME Z X W (.Dict [] [] pos) dDicE := by
  refine ⟨_, pe_dnewK, fun S σ H env st Q r p a ha => ?_⟩
  have E := ExtP.new r.wf ha (o := .dK [])
  exact p _ S _ E.ext E.wf (r.str.extP E) ⟨a, [], rfl, upd_same, ng_none r.wf ha, ha, rfl, repL_nil⟩
theorem dget_of {H : Hp} {a : Addr} {kxs : List (Key × V)} {k : Key} (h : Rd H a (.dK kxs)) : DGet H a (kV k) (valV kxs k) := .inl ⟨kxs, k, h, rfl, rfl⟩
/-- d[k] -/
theorem me_ixD {a b : Expr} {da db : DP} {pos : Pos} (hu : X.A.units + 1 < cLine) (ha : MP Z X W a da) (hb : MP Z X W b db) (hs : NoSl b := by exact fun _ _ => rfl) : ME Z X W (.Subscript a b pos) (dOp gIxD da db) := by
  obtain ⟨ta, h1, h2⟩ := ha
  obtain ⟨tb, h3, h4⟩ := hb
  refine ⟨_, pe_dget hu h1 h3 hs, ?_⟩
  refine snd_bind (RPb := rpE X.K Z) (tb := fun x σ H Q => tb σ H fun y H2 => ∃ a v, x = .ref a ∧ DGet H2 a y (some v) ∧ Q v H2) (db := fun v env st => (db env st).bind fun w st => fromO (gIxD v w) st) h2 ?_
  intro S σ H env st Q v x S1 H1 st1 r e1 r1 p1 po
  refine h4 S1 σ H1 env st1 _ r1 ?_
  cases e : db env st1 with
  | bad => simp only [e, Out.bind, Post] at po
  | exc c fs st2 =>
    simp only [e, Out.bind, Post] at po ⊢
    exact po
  | ok w st2 =>
    simp only [e, Out.bind, Post] at po ⊢
    intro y S2 H2 e2 w2 s2 p2
    cases v with
    | dic ks vs =>
      cases ek : keyOf w with
      | none => simp only [gIxD, ek, Option.bind, fromO, Post] at po
      | some k =>
        cases el : lookK ks vs k with
        | none => simp only [gIxD, ek, el, Option.bind, Option.map, fromO, Post] at po
        | some u =>
          simp only [gIxD, ek, el, Option.bind, Option.map, fromO, Post] at po
          obtain ⟨l, kxs, rfl, hl, hk, hr⟩ := (PRepS.ext r1.wf e2 p1).brwd
          obtain ⟨z, e5, e6⟩ := (look_rep (k := k) hk hr).1 u el
          refine ⟨l, z, rfl, ?_, po z S2 H2 e2 w2 s2 e6⟩
          rw [key_rep ek p2.p, ← e5]
          exact dget_of hl.h
    | _ => simp only [gIxD, fromO, Post] at po
theorem snd_din {K : PySem.W.Frag} {ta tb : TE} {da db : DP} (h2 : Snd K Z W (rpP K Z) ta da) (h4 : Snd K Z W (rpP K Z) tb db) : Snd K Z W (rpE K Z) (tDIn ta tb) (dOp gInK da db) := by
  refine snd_bind (RPb := rpE K Z) (tb := fun y σ H1 Q => tb σ H1 fun x H2 => ∃ a o, x = .ref a ∧ DGet H2 a y o ∧ Q (.bl o.isSome) H2) (db := fun v env st => (db env st).bind fun w st => fromO (gInK v w) st) h2 ?_
  intro S σ H env st Q v x S1 H1 st1 r e1 r1 p1 po
  refine h4 S1 σ H1 env st1 _ r1 ?_
  cases e : db env st1 with
  | bad => simp only [e, Out.bind, Post] at po
  | exc c fs st2 =>
    simp only [e, Out.bind, Post] at po ⊢
    exact po
  | ok w st2 =>
    simp only [e, Out.bind, Post] at po ⊢
    intro y S2 H2 e2 w2 s2 p2
    cases w with
    | dic ks vs =>
      cases ek : keyOf v with
      | none => simp only [gInK, ek, Option.map, fromO, Post] at po
      | some k =>
        simp only [gInK, ek, Option.map, fromO, Post] at po
        obtain ⟨l, kxs, rfl, hl, hk, hr⟩ := p2.brwd
        have ee : (valV kxs k).isSome = (lookK ks vs k).isSome := by
          cases el : lookK ks vs k with
          | none => rw [(look_rep (k := k) hk hr).2 el]; rfl
          | some u =>
            obtain ⟨z, e5, e6⟩ := (look_rep (k := k) hk hr).1 u el
            rw [e5]; rfl
        refine ⟨l, valV kxs k, rfl, ?_, po _ S2 H2 e2 w2 s2 ?_⟩
        · rw [key_rep ek (PRepS.ext r1.wf e2 p1).p]
          exact dget_of hl.h
        · simp only [rpE, RR, Rep, ee]
    | _ => simp only [gInK, fromO, Post] at po
theorem snd_dnotin {K : PySem.W.Frag} {ta tb : TE} {da db : DP} (h2 : Snd K Z W (rpP K Z) ta da) (h4 : Snd K Z W (rpP K Z) tb db) : Snd K Z W (rpE K Z) (tDNotIn ta tb) (dOp gNotInK da db) := by
  refine snd_bind (RPb := rpE K Z) (tb := fun y σ H1 Q => tb σ H1 fun x H2 => ∃ a o, x = .ref a ∧ DGet H2 a y o ∧ Q (.bl (!o.isSome)) H2) (db := fun v env st => (db env st).bind fun w st => fromO (gNotInK v w) st) h2 ?_
  intro S σ H env st Q v x S1 H1 st1 r e1 r1 p1 po
  refine h4 S1 σ H1 env st1 _ r1 ?_
  cases e : db env st1 with
  | bad => simp only [e, Out.bind, Post] at po
  | exc c fs st2 =>
    simp only [e, Out.bind, Post] at po ⊢
    exact po
  | ok w st2 =>
    simp only [e, Out.bind, Post] at po ⊢
    intro y S2 H2 e2 w2 s2 p2
    cases w with
    | dic ks vs =>
      cases ek : keyOf v with
      | none => simp only [gNotInK, ek, Option.map, fromO, Post] at po
      | some k =>
        simp only [gNotInK, ek, Option.map, fromO, Post] at po
        obtain ⟨l, kxs, rfl, hl, hk, hr⟩ := p2.brwd
        have ee : (valV kxs k).isSome = (lookK ks vs k).isSome := by
          cases el : lookK ks vs k with
          | none => rw [(look_rep (k := k) hk hr).2 el]; rfl
          | some u =>
            obtain ⟨z, e5, e6⟩ := (look_rep (k := k) hk hr).1 u el
            rw [e5]; rfl
        refine ⟨l, valV kxs k, rfl, ?_, po _ S2 H2 e2 w2 s2 ?_⟩
        · rw [key_rep ek (PRepS.ext r1.wf e2 p1).p]
          exact dget_of hl.h
        · simp only [rpE, RR, Rep, ee]
    | _ => simp only [gNotInK, fromO, Post] at po
theorem me_inK {a b : Expr} {da db : DP} {pos : Pos} (hu : X.A.units + 1 < cLine) (ha : MP Z X W a da) (hb : MP Z X W b db) (hm : behindInMarks .In b = false := by rfl) : ME Z X W (.Compare a [.In] [b] pos) (dOp gInK da db) := by
  obtain ⟨ta, h1, h2⟩ := ha
  obtain ⟨tb, h3, h4⟩ := hb
  exact ⟨_, pe_cmp (pc_din hu h1 h3) hm, snd_din h2 h4⟩
theorem mt_inK {a b : Expr} {da db : DP} {pos : Pos} (hu : X.A.units + 1 < cLine) (ha : MP Z X W a da) (hb : MP Z X W b db) (hm : behindInMarks .In b = false := by rfl) : MT Z X W (.Compare a [.In] [b] pos) (dTB (dOp gInK da db)) := by
  obtain ⟨ta, h1, h2⟩ := ha
  obtain ⟨tb, h3, h4⟩ := hb
  exact ⟨_, pt_cmp (pc_din hu h1 h3) hm, snd_tb (snd_din h2 h4)⟩
theorem me_notInK {a b : Expr} {da db : DP} {pos : Pos} (hu : X.A.units + 1 < cLine) (ha : MP Z X W a da) (hb : MP Z X W b db) (hm : behindInMarks .NotIn b = false := by rfl) : ME Z X W (.Compare a [.NotIn] [b] pos) (dOp gNotInK da db) := by
  obtain ⟨ta, h1, h2⟩ := ha
  obtain ⟨tb, h3, h4⟩ := hb
  exact ⟨_, pe_cmp (pc_dnotin hu h1 h3) hm, snd_dnotin h2 h4⟩
theorem mt_notInK {a b : Expr} {da db : DP} {pos : Pos} (hu : X.A.units + 1 < cLine) (ha : MP Z X W a da) (hb : MP Z X W b db) (hm : behindInMarks .NotIn b = false := by rfl) : MT Z X W (.Compare a [.NotIn] [b] pos) (dTB (dOp gNotInK da db)) := by
  obtain ⟨ta, h1, h2⟩ := ha
  obtain ⟨tb, h3, h4⟩ := hb
  exact ⟨_, pt_cmp (pc_dnotin hu h1 h3) hm, snd_tb (snd_dnotin h2 h4)⟩
/-- d.get(k, x) -/
def gGet : Val → Val → Val → Option R
  | .dic ks vs, v, w => (keyOf v).map fun k => R.val ((lookK ks vs k).getD w)
  | _, _, _ => none
@[simp] theorem gGet_dic (ks vs v w) : gGet (.dic ks vs) v w = (keyOf v).map fun k => R.val ((lookK ks vs k).getD w) := rfl
@[simp] def dGet2 (d dk dx : DP) : DE := fun env st => (d env st).bind fun v st => match v with
  | .dic ks vs => (dk env st).bind fun w st => (dx env st).bind fun u st => fromO (gGet (.dic ks vs) w u) st
  | _ => .bad
theorem me_get2 {o e f : Expr} {d dk dx : DP} {apos cpos : Pos} (hu : X.A.units + 1 < cLine) (ho : MP Z X W o d) (he : MP Z X W e dk) (hf : MV Z X W f dx) (m : M2 X o "get" apos e f cpos := by exact ⟨rfl, rfl, rfl, rfl⟩) : ME Z X W (.Call (.Attribute o "get" apos) [e, f] [] cpos) (dGet2 d dk dx) := by
  obtain ⟨td, h1, h2⟩ := ho
  obtain ⟨tk, h3, h4⟩ := he
  obtain ⟨tx, h5, h6⟩ := hf
  refine ⟨_, pe_dget2 hu h1 h3 h5 m, ?_⟩
  refine snd_bind (RPb := rpE X.K Z) (tb := fun x σ H1 Q => ∃ a, x = .ref a ∧ IsD H1 a ∧ tk σ H1 fun y H2 => tx σ H2 fun z H3 => ∃ o, DGet H3 a y o ∧ Q (o.getD z) H3)
    (db := fun v env st => match v with | .dic ks vs => (dk env st).bind fun w st => (dx env st).bind fun u st => fromO (gGet (.dic ks vs) w u) st | _ => .bad) h2 ?_
  intro S σ H env st Q v x S1 H1 st1 r e1 r1 p1 po
  cases v with
  | dic ks vs =>
    obtain ⟨l, kxs, rfl, hl, hk, hr⟩ := p1.brwd
    refine ⟨l, rfl, .inl ⟨kxs, hl.h⟩, h4 S1 σ H1 env st1 _ r1 ?_⟩
    cases ek : dk env st1 with
    | bad => simp only [ek, Out.bind, Post] at po
    | exc c fs st2 =>
      simp only [ek, Out.bind, Post] at po ⊢
      exact po
    | ok w st2 =>
      simp only [ek, Out.bind] at po
      intro y S2 H2 e2 w2 s2 p2
      have r2 := r1.ext e2 w2 s2
      refine h6 S2 σ H2 env st2 _ r2 ?_
      cases ex : dx env st2 with
      | bad => simp only [ex, Post] at po
      | exc c fs st3 =>
        simp only [ex, Post] at po ⊢
        exact fun cls d S' H' e w s xr => po cls d S' H' (e2.trans e) w s xr
      | ok u st3 =>
        simp only [ex] at po
        intro z S3 H3 e3 w3 s3 p3
        cases eo : keyOf w with
        | none => simp only [gGet_dic, eo, Option.map, fromO, Post] at po
        | some k =>
          simp only [gGet_dic, eo, Option.map, fromO, Post] at po
          have p1' := PRepS.ext r2.wf e3 (PRepS.ext r1.wf e2 p1)
          obtain ⟨l', kxs', el, hl', hk', hr'⟩ := p1'.brwd
          cases el
          refine ⟨valV kxs' k, ?_, po _ S3 H3 (e2.trans e3) w3 s3 ?_⟩
          · rw [key_rep eo (PRepS.ext r2.wf e3 p2).p]
            exact dget_of hl'.h
          · cases el : lookK ks vs k with
            | none =>
              rw [(look_rep (k := k) hk' hr').2 el]
              exact p3
            | some q =>
              obtain ⟨z', e5, e6⟩ := (look_rep (k := k) hk' hr').1 q el
              rw [e5]
              exact e6
  | _ => exact po.elim
/-! ### readings that may tell less -/
def tMono (t : TE) : TE := fun σ H Q => ∃ Q0 : VK, t σ H Q0 ∧ ∀ y H', Q0 y H' → Q y H'
theorem pe_mono {e : Expr} {t : TE} (h : PE X e t) : PE X e (tMono t) := ⟨fun pins s σ H Q I ⟨Q0, q, k⟩ =>
  wpAny_mono (h.run pins s σ H Q0 I q) (fun u s' ⟨v, H', i1, i2, i3⟩ => ⟨v, H', i1, i2, k v H' i3⟩) fun _ _ z => z⟩
theorem snd_mono {K : PySem.W.Frag} {α : Type} {RP : Hp → Gh → Hp → α → V → Prop} {t : TE} {d : Evn → Store → Out α} (h : Snd K Z W RP t d) : Snd K Z W RP (tMono t) d :=
  fun S σ H env st Q r p => ⟨Q, h S σ H env st Q r p, fun _ _ z => z⟩
theorem tMono.imp {t : TE} {σ : St} {H : Hp} {Q Q' : VK} (h : tMono t σ H Q) (k : ∀ y H', Q y H' → Q' y H') : tMono t σ H Q' :=
  let ⟨Q0, q, k0⟩ := h; ⟨Q0, q, fun y H' z => k y H' (k0 y H' z)⟩
/-- two, the first one a value -/
theorem snd_vp {K : PySem.W.Frag} {tv tk : TE} {dv dk : DP} (h2 : Snd K Z W (rpV K Z) tv dv) (h4 : Snd K Z W (rpP K Z) tk dk) :
    Snd K Z W (fun _ S H (p : Val × Val) (q : V × V) => Rep K Z S p.1 q.1 ∧ PRepS K Z S H p.2 q.2) (fun σ H Q => tv σ H fun y H1 => tk σ H1 fun x H2 => Q (y, x) H2) (fun env st => (dv env st).bind fun x st => (dk env st).bind fun v st => .ok (x, v) st) := by
  refine snd_bind (RPa := rpV K Z) (tb := fun y σ H1 Q => tk σ H1 fun x H2 => Q (y, x) H2) (db := fun x env st => (dk env st).bind fun v st => .ok (x, v) st) h2 ?_
  intro S σ H env st Q v y S1 H1 st1 r e1 r1 p1 po
  refine h4 S1 σ H1 env st1 _ r1 ?_
  cases ed : dk env st1 with
  | bad => simp only [ed, Out.bind, Post] at po
  | exc c fs st2 =>
    simp only [ed, Out.bind, Post] at po ⊢
    exact po
  | ok u st2 =>
    simp only [ed, Out.bind, Post] at po ⊢
    exact fun x S' H' e w s q => po (y, x) S' H' e w s ⟨Rep.mono e.mon _ _ p1, q⟩
/-! ### stored into -/
@[simp] def dPutD (i : Nat) (dk dv : DP) : DS := fun env st => match env[i]? with
  | some (some (.ownd ks vs)) => dExpS ((dv env st).bind fun v st => (dk env st).bind fun k st => .ok (v, k) st) env fun p st => match keyOf p.2 with
    | some k => if ks.length < sizeLine then .nx (env.set i (some (.ownd (putKs ks vs k p.1).1 (putKs ks vs k p.1).2))) st else .bad
    | none => .bad
  | _ => .bad
theorem ms_putD {i : Nat} {x : Str} {k value : Expr} {dk dv : DP} {p pos pos' : Pos} (hu : X.A.units + 1 < cLine) (hx : PE X (.Name x p) (tVar i)) (hk : MP Z X W k dk) (hv : MV Z X W value dv) (hs : swapsWith value (some (.Subscript (.Name x p) k pos')) pos.line X.env = pure false := by rfl) :
    MS Z X W (.Assign [.Subscript (.Name x p) k pos'] value pos) (dPutD i dk dv) := by
  obtain ⟨tv, h1, h2⟩ := hv
  obtain ⟨tk, h3, h4⟩ := hk
  refine ⟨_, ps_dput hu hx (pe_mono h3) (pe_mono h1) hs, fun S σ H env st D r p => ?_⟩
  unfold dPutD at p
  split at p
  · rename_i ks vs ei
    obtain ⟨x, k1, k2⟩ := r.sl i _ ei
    obtain ⟨l, kxs, rfl, hl, g, hk, hr⟩ := id k2
    have key := snd_vp (snd_mono h2) (snd_mono h4) S σ H env st (fun q H2 => ∃ H4, DPut H2 l q.2 q.1 H4 ∧ D.nx σ H4) r ?_
    · exact key.imp fun y H1 q => ⟨_, k1, q.imp fun z H2 ⟨H4, a, b⟩ => ⟨l, H4, rfl, a, b⟩⟩
    · refine PostS.of_any (RP := fun S H (p : Val × Val) (q : V × V) => Rep X.K Z S p.1 q.1 ∧ PRepS X.K Z S H p.2 q.2) (f := fun p st => match keyOf p.2 with
        | some k => if ks.length < sizeLine then .nx (env.set i (some (.ownd (putKs ks vs k p.1).1 (putKs ks vs k p.1).2))) st else .bad
        | none => .bad) r p fun v st1 q S1 H1 e1 r1 pq po => ?_
      obtain ⟨v, u⟩ := v
      obtain ⟨y, z⟩ := q
      obtain ⟨q1, q2⟩ := pq
      simp only at q1 q2 po ⊢
      cases ek : keyOf u with
      | none => simp only [ek, PostS] at po
      | some k =>
        simp only [ek] at po
        by_cases hz : ks.length < sizeLine
        · rw [if_pos hz] at po
          obtain ⟨x2, k3, k4⟩ := r1.sl i _ ei
          rw [k1] at k3
          cases k3
          obtain ⟨l', kxs', el, hl', g', hk', hr'⟩ := k4
          cases el
          obtain ⟨a1, a2⟩ := put_rep (k := k) hk' hr' q1
          obtain ⟨r2, e2⟩ := r1.write (o := .dK (putK kxs' k y)) (s' := .ownd (putKs ks vs k v).1 (putKs ks vs k v).2) ei rfl k1 ⟨_, hl', trivial⟩ g' rfl ⟨l, _, rfl, upd_same, g', a1, a2⟩
          have hn : kxs'.length < sizeLine := by
            have : kxs'.length = ks.length := by rw [← hk', List.length_map]
            omega
          exact ⟨_, .inl ⟨kxs', k, hl', key_rep ek q2.p, hn, rfl⟩, po S1 σ _ ((e1.toS env σ).trans e2) r2⟩
        · rw [if_neg hz] at po
          exact po.elim
  · exact p.elim
/-! ### walked -/
@[simp] def dVals2 (d : DP) : DI := fun env st => (d env st).bind fun v st => match v with | .dic _ vs => .ok vs st | _ => .bad
@[simp] def dKeys (d : DP) : DI := fun env st => (d env st).bind fun v st => match v with | .dic ks _ => .ok (ks.map keyV) st | _ => .bad
def itemsK : List Key → List Val → List Val
  | k :: ks, v :: vs => .tup [keyV k, v] :: itemsK ks vs
  | _, _ => []
@[simp] def dItms (d : DP) : DI := fun env st => (d env st).bind fun v st => match v with | .dic ks vs => .ok (itemsK ks vs) st | _ => .bad
theorem itemsK_get : ∀ {ks : List Key} {vs : List Val} {i : Nat} {v : Val}, (itemsK ks vs)[i]? = some v → ∃ a b, ks[i]? = some a ∧ vs[i]? = some b ∧ v = .tup [keyV a, b]
  | a :: as, b :: bs, 0, v, h => ⟨a, b, rfl, rfl, by simp [itemsK] at h; exact h.symm⟩
  | a :: as, b :: bs, i + 1, v, h => by
    simp only [itemsK, List.getElem?_cons_succ] at h ⊢
    exact itemsK_get h
  | [], _, _, _, h => by simp [itemsK] at h
  | _ :: _, [], _, _, h => by simp [itemsK] at h
theorem itemsK_len : ∀ (ks : List Key) (vs : List Val), ks.length = vs.length → (itemsK ks vs).length = ks.length
  | [], [], _ => rfl
  | [], _ :: _, h => by cases h
  | _ :: _, [], h => by cases h
  | a :: as, b :: bs, h => by
    simp only [itemsK, List.length_cons] at h ⊢
    rw [itemsK_len as bs (by omega)]
/-- a dict that stands still -/
def Still (S : Gh) (H : Hp) (env : Evn) (σ : St) (x : V) (o : Obj) (kxs : List (Key × V)) : Prop := ∃ l, x = .ref l ∧ H l = some (.frz o (.dK kxs)) ∧ ∀ H2, Fr S H env σ H2 → H2 l = some (.frz o (.dK kxs))
theorem gives_vals {K : PySem.W.Frag} {S : Gh} {H : Hp} {env σ} {l : Addr} {o : Obj} {kxs : List (Key × V)} {vs : List Val} (h : ∀ H2, Fr S H env σ H2 → H2 l = some (.frz o (.dK kxs))) (hr : RepL K Z S vs (kxs.map (·.2))) : Gives K Z S H env σ (Itd l o kxs) vs := by
  intro i S2 H2 f m w2
  have hn : vs.length = kxs.length := by rw [repL_length hr, List.length_map]
  refine ⟨fun hl => ⟨h H2 f, by omega⟩, fun v hv => ?_⟩
  have hi : i < vs.length := (List.getElem?_eq_some_iff.mp hv).1
  refine ⟨⟨h H2 f, by omega⟩, fun x H3 hy => ?_⟩
  obtain ⟨rfl, k, ek⟩ := hy
  obtain ⟨y, e1, e2⟩ := repL_get hr hv
  rw [List.getElem?_map, ek] at e1
  cases e1
  exact ⟨S2, ExtP.refl w2, Rep.mono m _ _ e2⟩
theorem gives_keys {K : PySem.W.Frag} {S : Gh} {H : Hp} {env σ} {l : Addr} {o : Obj} {kxs : List (Key × V)} {ks : List Key} (h : ∀ H2, Fr S H env σ H2 → H2 l = some (.frz o (.dK kxs))) (hk : kxs.map (·.1) = ks) : Gives K Z S H env σ (Itk l o kxs) (ks.map keyV) := by
  intro i S2 H2 f m w2
  have hn : (ks.map keyV).length = kxs.length := by rw [List.length_map, ← hk, List.length_map]
  refine ⟨fun hl => ⟨h H2 f, by omega⟩, fun v hv => ?_⟩
  have hi := (List.getElem?_eq_some_iff.mp hv).1
  refine ⟨⟨h H2 f, by omega⟩, fun x H3 hy => ?_⟩
  obtain ⟨rfl, k, u, ek, rfl⟩ := hy
  rw [← hk, List.map_map, List.getElem?_map, ek] at hv
  cases hv
  exact ⟨S2, ExtP.refl w2, rep_key⟩
theorem gives_itms {K : PySem.W.Frag} {S : Gh} {H : Hp} {env σ} {l : Addr} {o : Obj} {kxs : List (Key × V)} {ks : List Key} {vs : List Val} (h : ∀ H2, Fr S H env σ H2 → H2 l = some (.frz o (.dK kxs))) (hk : kxs.map (·.1) = ks) (hr : RepL K Z S vs (kxs.map (·.2))) : Gives K Z S H env σ (Iti l o kxs) (itemsK ks vs) := by
  intro i S2 H2 f m w2
  have hn : vs.length = kxs.length := by rw [repL_length hr, List.length_map]
  have hn2 : ks.length = kxs.length := by rw [← hk, List.length_map]
  refine ⟨fun hl => ⟨h H2 f, by rw [itemsK_len _ _ (by omega)] at hl; omega⟩, fun v hv => ?_⟩
  obtain ⟨a, b, e1, e2, rfl⟩ := itemsK_get hv
  have hi := (List.getElem?_eq_some_iff.mp e1).1
  refine ⟨⟨h H2 f, by omega⟩, fun x H3 hy => ?_⟩
  obtain ⟨T, k, u, ek, rfl, hT, rfl⟩ := hy
  obtain ⟨y, e3, e4⟩ := repL_get hr e2
  rw [List.getElem?_map, ek] at e3
  cases e3
  rw [← hk, List.getElem?_map, ek] at e1
  cases e1
  have E := ExtP.newF w2 hT (o := .tup [kV k, u]) trivial
  refine ⟨_, E, ?_⟩
  simp only [Rep]
  exact ⟨T, _, rfl, .inl (.inl upd_same), repL_cons rep_key (repL_cons (Rep.mono (m.trans E.ext.mon) _ _ e4) repL_nil)⟩
/-- what a slot or a value that is looked at holds stands still while the loop runs -/
theorem still_of {K : PySem.W.Frag} {S S1 : Gh} {H H1 : Hp} {σ env st st1} {v : Val} {x : V} {ks : List Key} {vs : List Val} (r0 : SR K Z S σ H env st) (r1 : SR K Z S1 σ H1 env st1) (q : Rep K Z S1 (.dic ks vs) x) :
    ∃ l o kxs, x = .ref l ∧ H1 l = some (.frz o (.dK kxs)) ∧ (∀ H2, Fr S1 H1 env σ H2 → H2 l = some (.frz o (.dK kxs))) ∧ kxs.map (·.1) = ks ∧ RepL K Z S1 vs (kxs.map (·.2)) := by
  simp only [Rep] at q
  obtain ⟨l, kxs, rfl, ⟨o, ho⟩, hk, hr⟩ := q
  exact ⟨l, o, kxs, rfl, r1.wf.same _ _ ho, fun H2 f => fr_G r1 f _ _ ho, hk, hr⟩
theorem mi_vals {tg e : Expr} {d : DP} {apos cpos : Pos} (h : MV Z X W e d) (hb : attributeBase e "values" X.env (eval e X.env) = eval e X.env := by rfl) (hl : (apos.endLine == cpos.line) = true := by rfl) : MI Z X W tg (.Call (.Attribute e "values" apos) [] [] cpos) (dVals2 d) := by
  obtain ⟨t, h1, h2⟩ := h
  refine ⟨_, pi_values h1 hb hl, fun S σ H env st R r po => h2 S σ H env st _ r ?_⟩
  simp only [dVals2] at po
  cases ed : d env st with
  | bad => simp only [ed, Out.bind, Post] at po
  | exc c fs st1 =>
    simp only [ed, Out.bind, Post] at po ⊢
    exact po
  | ok v st1 =>
    simp only [ed, Out.bind] at po
    intro x S1 H1 e1 w1 s1 q
    cases v with
    | dic ks vs =>
      obtain ⟨l, o, kxs, rfl, hh, hs, hk, hr⟩ := still_of (v := .non) r (r.ext e1 w1 s1) q
      exact ⟨l, o, kxs, rfl, hh, po _ S1 H1 e1 w1 s1 (gives_vals hs hr)⟩
    | _ => exact po.elim
theorem mi_keys {tg e : Expr} {d : DP} (h : MV Z X W e d) : MI Z X W tg e (dKeys d) := by
  obtain ⟨t, h1, h2⟩ := h
  refine ⟨_, pi_keys h1, fun S σ H env st R r po => h2 S σ H env st _ r ?_⟩
  simp only [dKeys] at po
  cases ed : d env st with
  | bad => simp only [ed, Out.bind, Post] at po
  | exc c fs st1 =>
    simp only [ed, Out.bind, Post] at po ⊢
    exact po
  | ok v st1 =>
    simp only [ed, Out.bind] at po
    intro x S1 H1 e1 w1 s1 q
    cases v with
    | dic ks vs =>
      obtain ⟨l, o, kxs, rfl, hh, hs, hk, hr⟩ := still_of (v := .non) r (r.ext e1 w1 s1) q
      exact ⟨l, o, rfl, .inl ⟨kxs, hh, po _ S1 H1 e1 w1 s1 (gives_keys hs hk)⟩⟩
    | _ => exact po.elim
theorem mi_itms {elts : List Expr} {kk : Nat} {tpos : Pos} {e : Expr} {d : DP} {apos cpos : Pos} (h : MV Z X W e d) (hb : attributeBase e "items" X.env (eval e X.env) = eval e X.env := by rfl) (hl : (apos.endLine == cpos.line) = true := by rfl) : MI Z X W (.Tuple elts kk tpos) (.Call (.Attribute e "items" apos) [] [] cpos) (dItms d) := by
  obtain ⟨t, h1, h2⟩ := h
  refine ⟨_, pi_items h1 hb hl, fun S σ H env st R r po => h2 S σ H env st _ r ?_⟩
  simp only [dItms] at po
  cases ed : d env st with
  | bad => simp only [ed, Out.bind, Post] at po
  | exc c fs st1 =>
    simp only [ed, Out.bind, Post] at po ⊢
    exact po
  | ok v st1 =>
    simp only [ed, Out.bind] at po
    intro x S1 H1 e1 w1 s1 q
    cases v with
    | dic ks vs =>
      obtain ⟨l, o, kxs, rfl, hh, hs, hk, hr⟩ := still_of (v := .non) r (r.ext e1 w1 s1) q
      exact ⟨l, o, kxs, rfl, hh, po _ S1 H1 e1 w1 s1 (gives_itms hs hk hr)⟩
    | _ => exact po.elim
end
end Eg

/-! sorted of texts, of a dict; list and dict of a dict; a field added to; an own dict walked; a told list cleared. -/
namespace Eg
open PySem L2
theorem ltC_nn : Spec.ltCps [] [] = false := by unfold Spec.ltCps; rfl
theorem ltC_nc (b : Nat) (y : List Nat) : Spec.ltCps [] (b :: y) = true := by unfold Spec.ltCps; rfl
theorem ltC_cn (a : Nat) (x : List Nat) : Spec.ltCps (a :: x) [] = false := by unfold Spec.ltCps; rfl
theorem ltC_cc (a b : Nat) (x y : List Nat) : Spec.ltCps (a :: x) (b :: y) = (decide (a < b) || (a == b && Spec.ltCps x y)) := by
  rw [Spec.ltCps]
theorem ltC_anti : ∀ {x y : List Nat}, Spec.ltCps x y = false → Spec.ltCps y x = false → x = y
  | [], [], _, _ => rfl
  | [], b :: y, h, _ => by rw [ltC_nc] at h; cases h
  | a :: x, [], _, h => by rw [ltC_nc] at h; cases h
  | a :: x, b :: y, h, h' => by
    rw [ltC_cc] at h h'
    simp only [Bool.or_eq_false_iff, decide_eq_false_iff_not, Bool.and_eq_false_iff, beq_eq_false_iff_ne] at h h'
    have e : a = b := by omega
    subst e
    rw [ltC_anti (h.2.resolve_left (by simp)) (h'.2.resolve_left (by simp))]
theorem ltC_tot : ∀ {x y : List Nat}, Spec.ltCps x y = true → Spec.ltCps y x = false
  | [], [], h => by rw [ltC_nn] at h; cases h
  | [], b :: y, _ => ltC_cn b y
  | a :: x, [], h => by rw [ltC_cn] at h; cases h
  | a :: x, b :: y, h => by
    rw [ltC_cc] at h ⊢
    simp only [Bool.or_eq_true, decide_eq_true_eq, Bool.and_eq_true, beq_iff_eq] at h
    simp only [Bool.or_eq_false_iff, decide_eq_false_iff_not, Bool.and_eq_false_iff, beq_eq_false_iff_ne]
    rcases h with h | ⟨h, h'⟩
    · exact ⟨by omega, .inl (by omega)⟩
    · exact ⟨by omega, .inr (ltC_tot h')⟩
theorem ltC_trans : ∀ {x y z : List Nat}, Spec.ltCps y x = false → Spec.ltCps z y = false → Spec.ltCps z x = false
  | [], _, [], _, _ => ltC_nn
  | [], _, c :: z, _, _ => ltC_cn c z
  | a :: x, [], _, h, _ => by rw [ltC_nc] at h; cases h
  | a :: x, b :: y, [], _, h => by rw [ltC_nc] at h; cases h
  | a :: x, b :: y, c :: z, h, h' => by
    rw [ltC_cc] at h h' ⊢
    simp only [Bool.or_eq_false_iff, decide_eq_false_iff_not, Bool.and_eq_false_iff, beq_eq_false_iff_ne] at h h' ⊢
    refine ⟨by omega, ?_⟩
    by_cases e : c = a
    · subst e
      have e : b = c := by omega
      subst e
      exact .inr (ltC_trans (h.2.resolve_left (by simp)) (h'.2.resolve_left (by simp)))
    · exact .inl e
/-- texts in their order -/
def leS (x y : Str) : Prop := Spec.ltCps y.cps.toList x.cps.toList = false
theorem leS_trans {x y z : Str} (h : leS x y) (h' : leS y z) : leS x z := ltC_trans (x := x.cps.toList) (y := y.cps.toList) (z := z.cps.toList) h h'
theorem leS_anti {x y : Str} (h : leS x y) (h' : leS y x) : x = y := by
  have e := ltC_anti h' h
  cases x
  cases y
  congr 1
  exact Array.ext' e
theorem rising_pw : ∀ {x : Str} {r : List Str}, PyProof.Rows.risingS x r = true → (x :: r).Pairwise leS
  | x, [], _ => by simp
  | x, y :: r, h => by
    rw [PyProof.Rows.risingS] at h
    simp only [Bool.and_eq_true, Bool.not_eq_true'] at h
    have ih := rising_pw h.2
    refine List.pairwise_cons.mpr ⟨fun z hz => ?_, ih⟩
    rcases List.mem_cons.mp hz with rfl | hz
    · exact h.1
    · exact leS_trans h.1 ((List.pairwise_cons.mp ih).1 z hz)
theorem sortedS_pw {l : List Str} (h : PyProof.Rows.sortedS l = true) : l.Pairwise leS := by
  cases l with
  | nil => simp
  | cons x r => exact rising_pw h
def insS (a : Str) : List Str → List Str
  | [] => [a]
  | b :: l => if Spec.ltCps b.cps.toList a.cps.toList = true then b :: insS a l else a :: b :: l
def sortS : List Str → List Str
  | [] => []
  | a :: l => insS a (sortS l)
theorem insS_perm (a : Str) : ∀ l, (insS a l).Perm (a :: l)
  | [] => .refl _
  | b :: l => by
    unfold insS
    split
    · exact ((insS_perm a l).cons b).trans (.swap a b l)
    · exact .refl _
theorem sortS_perm : ∀ l, (sortS l).Perm l
  | [] => .refl _
  | a :: l => (insS_perm a _).trans ((sortS_perm l).cons a)
theorem insS_pw (a : Str) : ∀ l, l.Pairwise leS → (insS a l).Pairwise leS
  | [], _ => by simp [insS]
  | b :: l, h => by
    obtain ⟨h1, h2⟩ := List.pairwise_cons.mp h
    unfold insS
    split
    · rename_i c
      refine List.pairwise_cons.mpr ⟨fun x hx => ?_, insS_pw a l h2⟩
      rcases List.mem_cons.mp ((insS_perm a l).mem_iff.mp hx) with rfl | hx
      · exact ltC_tot c
      · exact h1 x hx
    · rename_i c
      have c' : leS a b := by simpa [leS] using c
      refine List.pairwise_cons.mpr ⟨fun x hx => ?_, h⟩
      rcases List.mem_cons.mp hx with rfl | hx
      · exact c'
      · exact leS_trans c' (h1 x hx)
theorem sortS_pw : ∀ l, (sortS l).Pairwise leS
  | [] => List.Pairwise.nil
  | a :: l => insS_pw a _ (sortS_pw l)
theorem sortedS_uniq : ∀ {l l' : List Str}, l.Perm l' → l.Pairwise leS → l'.Pairwise leS → l = l'
  | [], l', p, _, _ => (List.nil_perm.mp p).symm
  | a :: l, [], p, _, _ => by cases List.perm_nil.mp p
  | a :: l, b :: l', p, h, h' => by
    obtain ⟨h1, h2⟩ := List.pairwise_cons.mp h
    obtain ⟨h3, h4⟩ := List.pairwise_cons.mp h'
    have hab : a = b := by
      have ha : a ∈ b :: l' := p.mem_iff.mp List.mem_cons_self
      have hb : b ∈ a :: l := p.mem_iff.mpr List.mem_cons_self
      rcases List.mem_cons.mp ha with e | ha
      · exact e
      · rcases List.mem_cons.mp hb with e | hb
        · exact e.symm
        · exact leS_anti (h1 b hb) (h3 a ha)
    subst hab
    rw [sortedS_uniq ((List.perm_cons a).mp p) h2 h4]
def strsK : List Key → Option (List Str)
  | [] => some []
  | .inr i :: r => (strsK r).map (i :: ·)
  | _ => none
theorem strsK_map : ∀ ns : List Str, strsK (ns.map Sum.inr) = some ns
  | [] => rfl
  | n :: ns => by
    show (strsK (ns.map Sum.inr)).map (n :: ·) = _
    rw [strsK_map ns]
    rfl
theorem strsK_of : ∀ {ks : List Key} {ns : List Str}, strsK ks = some ns → ks = ns.map Sum.inr
  | [], ns, h => by cases h; rfl
  | .inr i :: r, ns, h => by
    have h' : (strsK r).map (i :: ·) = some ns := h
    cases q : strsK r with
    | none => rw [q] at h'; cases h'
    | some ms => rw [q] at h'; cases h'; rw [strsK_of q]; rfl
  | .inl i :: r, ns, h => by cases h
section
variable {K : PySem.W.Frag} {Z : Stc} {S : Gh}
theorem repL_strsOf : ∀ {vs : List Val} {xs : List V} {ns}, RepL K Z S vs xs → strsOf vs = some ns → xs = ns.map V.str
  | [], xs, ns, h, e => by
    simp only [RepL] at h
    cases e
    exact h
  | .str i :: vs, xs, ns, h, e => by
    obtain ⟨x, r, rfl, h1, t⟩ := repL_uncons h
    have e' : (strsOf vs).map (i :: ·) = some ns := e
    cases q : strsOf vs with
    | none => rw [q] at e'; cases e'
    | some ms =>
      rw [q] at e'
      cases e'
      have hx : x = V.str i := by simpa only [Rep] using h1
      rw [hx, repL_strsOf t q]
      rfl
  | .non :: _, _, _, _, e => by cases e
  | .bl _ :: _, _, _, _, e => by cases e
  | .int _ :: _, _, _, _, e => by cases e
  | .tup _ :: _, _, _, _, e => by cases e
  | .lst _ :: _, _, _, _, e => by cases e
  | .slst _ :: _, _, _, _, e => by cases e
  | .dic _ _ :: _, _, _, _, e => by cases e
  | .obj _ :: _, _, _, _, e => by cases e
  | .fn _ :: _, _, _, _, e => by cases e
theorem repL_strs : ∀ ns : List Str, RepL K Z S (ns.map Val.str) (ns.map V.str)
  | [] => repL_nil
  | n :: ns => repL_cons (by simp only [Rep]) (repL_strs ns)
end
def gSortS : List Val → Option R
  | [.dic ks _] => match strsK ks with
    | some ns => if ns.length < 64 then some (.own ((sortS ns).map Val.str)) else none
    | none => none
  | [v] => match lstOf v with
    | some vs => match strsOf vs with
      | some ns => if ns.length < 64 then some (.own ((sortS ns).map Val.str)) else none
      | none => none
    | none => none
  | _ => none
@[simp] theorem gSortS_lst (ns : List Str) (h : ns.length < 64) : gSortS [.lst (ns.map Val.str)] = some (.own ((sortS ns).map Val.str)) := by
  simp only [gSortS, lstOf, strsOf_map, if_pos h]
@[simp] theorem gSortS_dic (ns : List Str) (vs : List Val) (h : ns.length < 64) : gSortS [.dic (ns.map Sum.inr) vs] = some (.own ((sortS ns).map Val.str)) := by
  simp only [gSortS, strsK_map, if_pos h]
@[simp] def gListK : List Val → Option R
  | [.dic ks _] => some (.own (ks.map keyV))
  | _ => none
@[simp] def gDict : List Val → Option R
  | [.dic ks vs] => some (.ownd ks vs)
  | _ => none
section
variable {Z : Stc} {X : Cx} {W : WX}
theorem cs_sortS (hc : X.calm = true) : CallR X (.builtin "sorted") (rC X.K Z gSortS) := by
  intro pins s σ H xs us Q I rs ⟨S, vs, r, w, pr, eg, q⟩
  unfold gSortS at eg
  split at eg
  · rename_i ks vs
    split at eg
    · rename_i ns e
      split at eg
      · rename_i hl
        cases eg
        obtain ⟨x, rfl, p1⟩ := prep1 pr
        obtain ⟨a, kxs, rfl, hr, hk, _⟩ := p1
        refine call_sortedD hc pins s σ H _ us Q I rs ⟨a, kxs, ns, rfl, hr, by rw [← strsK_of e]; exact hk, hl, fun ys p h1 h2 hp => ?_⟩
        have e3 : ys = sortS ns := sortedS_uniq (h1.trans (sortS_perm ns).symm) (sortedS_pw h2) (sortS_pw ns)
        subst e3
        exact q_own w q (repL_strs _) p hp
      · cases eg
    · cases eg
  · split at eg
    · rename_i ws e
      split at eg
      · rename_i ns e2
        split at eg
        · rename_i hl
          cases eg
          obtain ⟨x, rfl, p1⟩ := prep1 pr
          obtain ⟨a, ys, rfl, hs, r1⟩ := lst_rep w p1 e
          have ey := repL_strsOf r1 e2
          subst ey
          refine cr_sortedS pins s σ H _ us Q I rs ⟨a, ns, rfl, hs, hl, fun ys p h1 h2 hp => ?_⟩
          have e3 : ys = sortS ns := sortedS_uniq (h1.trans (sortS_perm ns).symm) (sortedS_pw h2) (sortS_pw ns)
          subst e3
          exact q_own w q (repL_strs _) p hp
        · cases eg
      · cases eg
    · cases eg
  · cases eg
theorem repL_keys {K : PySem.W.Frag} {S : Gh} : ∀ ks : List Key, RepL K Z S (ks.map keyV) (ks.map kV)
  | [] => repL_nil
  | k :: ks => repL_cons rep_key (repL_keys ks)
theorem cs_listK (hc : X.calm = true) : CallR X (.type "list") (rC X.K Z gListK) := by
  intro pins s σ H xs us Q I rs ⟨S, vs, r, w, pr, eg, q⟩
  unfold gListK at eg
  split at eg
  · rename_i ks vs
    cases eg
    obtain ⟨x, rfl, p1⟩ := prep1 pr
    obtain ⟨a, kxs, rfl, hr, hk, _⟩ := p1
    refine call_listD hc pins s σ H _ us Q I rs ⟨a, kxs, rfl, hr, fun p hp => ?_⟩
    have := q_own (vs := ks.map keyV) (xs := kxs.map fun kv => kV kv.1) w q (by rw [← hk, show (kxs.map fun kv => kV kv.1) = (kxs.map (·.1)).map kV from by rw [List.map_map]; rfl]; exact repL_keys _) p hp
    exact this
  · cases eg
theorem cs_dict : CallR X (.type "dict") (rC X.K Z gDict) := by
  intro pins s σ H xs us Q I rs ⟨S, vs, r, w, pr, eg, q⟩
  unfold gDict at eg
  split at eg
  · rename_i ks vs
    cases eg
    obtain ⟨x, rfl, p1⟩ := prep1 pr
    obtain ⟨a, kxs, rfl, hr, hk, r1⟩ := p1
    refine call_dictD pins s σ H _ us Q I rs ⟨a, kxs, rfl, hr, fun p hp => ?_⟩
    exact q _ S _ (ExtP.new w hp) ⟨p, kxs, rfl, upd_same, ng_none w hp, hp, hk, r1⟩
  · cases eg
/-! ### a field added to -/
def gAddF (cs : List Nat) (f : Str) (j : Int) : Val → Store → Option Store
  | .obj i, st => match st[i]? with
    | some o => match o.fs.lookup f with
      | some (.int n) => if cs.contains o.c = true ∧ o.fs.length < 1000 then some (st.set i ⟨o.c, putG f (.int (n + j)) o.fs⟩) else none
      | _ => none
    | none => none
  | _, _ => none
def dAddF (cs : List Nat) (f : Str) (j : Int) (d : DP) : DS := fun env st => dExpS (d env st) env fun v st => match gAddF cs f j v st with
  | some st' => .nx env st'
  | none => .bad
theorem ms_addF {X : Cx} {o : Expr} {d : DP} {f : Str} {k : Nat} {j : Int} {cs : List Nat} {p2 tpos pos : Pos} (T : FldT X.K Z f cs) (h : MP Z X W o d) :
    MS Z X W (.AugAssign (.Attribute o f tpos) .Add (.Constant (.int j) k p2) pos) (dAddF cs f j d) := by
  obtain ⟨ta, h3, h4⟩ := h
  refine ⟨_, ps_fldaug h3 pe_int in_add, fun S σ H env st D r p => h4 S σ H env st _ r ?_⟩
  refine PostS.of_any (f := fun v st => match gAddF cs f j v st with | some st' => .nx env st' | none => .bad) r p fun v st1 x S1 H1 e1 r1 q po => ?_
  cases v with
  | obj i =>
    cases eo : st1[i]? with
    | none => simp only [gAddF, eo, PostS] at po
    | some ob =>
      cases el : ob.fs.lookup f with
      | none => simp only [gAddF, eo, el, PostS] at po
      | some w =>
        cases w with
        | int n =>
          by_cases hc : cs.contains ob.c = true ∧ ob.fs.length < 1000
          · simp only [gAddF, eo, el, if_pos hc, PostS] at po
            obtain ⟨a, dx, fs, rfl, ha, hh, hf⟩ := str_ob r1.str q.p eo (T.at hc.1).2.2
            obtain ⟨y, hy, ry⟩ := hf.look el
            have ey : y = V.int n := by simpa only [Rep] using ry
            subst ey
            obtain ⟨x1, x2, x3⟩ := put_ext (f := f) (v := .int (n + j)) (y := V.int (n + j)) r1.wf r1.str (T.at hc.1).2.2 eo ha hh hf (by simp only [Rep])
            exact ⟨a, _, dx, fs, _, rfl, hh, (T.at hc.1).1, (T.at hc.1).2.1, hy, n, j, rfl, rfl, dx, fs, hh, by rw [hf.length]; exact hc.2, po S1 σ _ ((e1.trans x1).toS env σ) (r1.ext x1 x2 x3)⟩
          · simp only [gAddF, eo, el, if_neg hc, PostS] at po
        | _ => simp only [gAddF, eo, el, PostS] at po
  | _ => simp only [gAddF, PostS] at po
def gSubF (cs : List Nat) (f : Str) (j : Int) : Val → Store → Option Store
  | .obj i, st => match st[i]? with
    | some o => match o.fs.lookup f with
      | some (.int n) => if cs.contains o.c = true ∧ o.fs.length < 1000 then some (st.set i ⟨o.c, putG f (.int (n - j)) o.fs⟩) else none
      | _ => none
    | none => none
  | _, _ => none
def dSubF (cs : List Nat) (f : Str) (j : Int) (d : DP) : DS := fun env st => dExpS (d env st) env fun v st => match gSubF cs f j v st with
  | some st' => .nx env st'
  | none => .bad
theorem ms_subF {X : Cx} {o : Expr} {d : DP} {f : Str} {k : Nat} {j : Int} {cs : List Nat} {p2 tpos pos : Pos} (T : FldT X.K Z f cs) (h : MP Z X W o d) :
    MS Z X W (.AugAssign (.Attribute o f tpos) .Sub (.Constant (.int j) k p2) pos) (dSubF cs f j d) := by
  obtain ⟨ta, h3, h4⟩ := h
  refine ⟨_, ps_fldaug h3 pe_int in_sub, fun S σ H env st D r p => h4 S σ H env st _ r ?_⟩
  refine PostS.of_any (f := fun v st => match gSubF cs f j v st with | some st' => .nx env st' | none => .bad) r p fun v st1 x S1 H1 e1 r1 q po => ?_
  cases v with
  | obj i =>
    cases eo : st1[i]? with
    | none => simp only [gSubF, eo, PostS] at po
    | some ob =>
      cases el : ob.fs.lookup f with
      | none => simp only [gSubF, eo, el, PostS] at po
      | some w =>
        cases w with
        | int n =>
          by_cases hc : cs.contains ob.c = true ∧ ob.fs.length < 1000
          · simp only [gSubF, eo, el, if_pos hc, PostS] at po
            obtain ⟨a, dx, fs, rfl, ha, hh, hf⟩ := str_ob r1.str q.p eo (T.at hc.1).2.2
            obtain ⟨y, hy, ry⟩ := hf.look el
            have ey : y = V.int n := by simpa only [Rep] using ry
            subst ey
            obtain ⟨x1, x2, x3⟩ := put_ext (f := f) (v := .int (n - j)) (y := V.int (n - j)) r1.wf r1.str (T.at hc.1).2.2 eo ha hh hf (by simp only [Rep])
            exact ⟨a, _, dx, fs, _, rfl, hh, (T.at hc.1).1, (T.at hc.1).2.1, hy, n, j, rfl, rfl, dx, fs, hh, by rw [hf.length]; exact hc.2, po S1 σ _ ((e1.trans x1).toS env σ) (r1.ext x1 x2 x3)⟩
          · simp only [gSubF, eo, el, if_neg hc, PostS] at po
        | _ => simp only [gSubF, eo, el, PostS] at po
  | _ => simp only [gSubF, PostS] at po
/-! ### a told list cleared -/
@[simp] def dClrE (d : DE) : DS := fun env st => dExpS (d env st) env fun r st => match r with
  | .own _ => .nx env st
  | _ => .bad
theorem ms_clrE {o : Expr} {d : DE} {apos cpos pos : Pos} (h : ME Z X W o d) (hs : swapsWith (.Call (.Attribute o "clear" apos) [] [] cpos) none pos.line X.env = pure false := by rfl)
    (hbase : attributeBase o "clear" X.env (eval o X.env) = eval o X.env := by rfl) (hline : (apos.endLine == cpos.line) = true := by rfl) :
    MS Z X W (.Expr (.Call (.Attribute o "clear" apos) [] [] cpos) pos) (dClrE d) := by
  obtain ⟨t, h1, h2⟩ := h
  refine ⟨_, ps_expr (pe_bm0 PySem.F.plainAttrs_list PySem.F.slot_list_clear PySem.F.type_list_clear mt_clear h1 hbase hline) hs, fun S σ H env st D r p => h2 S σ H env st _ r ?_⟩
  refine PostS.of_any (f := fun r st => match r with | .own _ => .nx env st | _ => .bad) r p fun v st1 x S1 H1 e1 r1 q po => ?_
  cases v with
  | own vs =>
    obtain ⟨l, xs, rfl, e2, g, n, e5⟩ := q
    have nA : ¬ AddrA env σ l := fun z => addr_live r z n
    exact ⟨tyV_lst e2, l, xs, rfl, rfl, e2, po S1 σ _ ((e1.out n).toS env σ) (r1.out ⟨_, e2, trivial⟩ g nA)⟩
  | _ => exact po.elim
end
end Eg

/-! An own dict that stands still while a statement runs; walks over it. -/
namespace Eg
open PySem L2
section
variable {K : PySem.W.Frag} {Z : Stc} {S S1 S' : Gh} {H H1 H' : Hp} {W : WX} {σ σ' : St} {env env' : Evn} {st st' : Store}
theorem SR.chg (r : SR K Z S σ H env st) {i : Nat} {s' : Slot} {l : Addr} {u o : HO} (hi : i < env.length) (q : σ[i]? = some (some (.ref l))) (hl : H l = some u) (nu : ¬ Sy u) (g : Ng S l)
    (oth : ∀ (j : Nat) (t : Slot), j ≠ i → env[j]? = some (some t) → t.isAddr = true → σ[j]? ≠ some (some (V.ref l))) (hs : SlR K Z S (upd H l o) s' (.ref l)) : SR K Z S σ (upd H l o) (env.set i (some s')) st := by
  refine ⟨wf_upd r.wf g, str_upd r.str hl g nu, by rw [List.length_set]; exact r.len, fun j t h => ?_, fun j k sj sk a njk h1 o1 h2 a2 q1 q2 => ?_⟩
  · rcases set_some h with ⟨rfl, rfl⟩ | ⟨nj, h⟩
    · exact ⟨_, q, hs⟩
    · obtain ⟨x, k1, k2⟩ := r.sl j t h
      refine ⟨x, k1, ?_⟩
      have na : t.isAddr = true → ∀ a, x = .ref a → a ≠ l := fun at_ a ea z => oth j t nj h at_ (by rw [k1, ea, z])
      cases t with
      | val v => exact k2
      | exn c => exact k2
      | fnv g => exact fnv_sy k2 (sy_upd hl nu)
      | own vs =>
        obtain ⟨a, xs, rfl, z1, z2⟩ := k2
        exact ⟨a, xs, rfl, by rw [upd_ne (na rfl a rfl)]; exact z1, z2⟩
      | brw vs =>
        obtain ⟨a, xs, rfl, z1, z2⟩ := k2
        exact ⟨a, xs, rfl, ⟨by rw [upd_ne (na rfl a rfl)]; exact z1.h, z1.m⟩, z2⟩
      | ownd ks vs =>
        obtain ⟨a, xs, rfl, z1, z2⟩ := k2
        exact ⟨a, xs, rfl, by rw [upd_ne (na rfl a rfl)]; exact z1, z2⟩
      | brwd ks vs =>
        obtain ⟨a, xs, rfl, z1, z2⟩ := k2
        have z := na rfl a rfl
        exact ⟨a, xs, rfl, ⟨z1.h.imp (fun q => (upd_ne z).trans q) fun ⟨o, q⟩ => ⟨o, (upd_ne z).trans q⟩, z1.m⟩, z2⟩
      | lkd ks vs =>
        obtain ⟨a, xs, rfl, z1, z2⟩ := k2
        have z := na rfl a rfl
        exact ⟨a, xs, rfl, ⟨z1.h.imp fun o q => (upd_ne z).trans q, z1.m⟩, z2⟩
  · rcases set_some h1 with ⟨rfl, rfl⟩ | ⟨nj, h1⟩
    · rw [List.getElem?_set_ne njk] at h2
      rw [q] at q1
      cases q1
      exact oth k sk (Ne.symm njk) h2 a2 q2
    · rcases set_some h2 with ⟨ek, es⟩ | ⟨nk, h2⟩
      · rw [ek, q] at q2
        cases q2
        exact oth j sj nj h1 (own_addr o1) q1
      · exact r.sep j k sj sk a njk h1 o1 h2 a2 q1 q2
def lkdO (i : Nat) : OutS → OutS
  | .nx env' st' => match env'[i]? with
    | some (some (.lkd ks vs)) => .nx (env'.set i (some (.ownd ks vs))) st'
    | _ => .bad
  | _ => .bad
@[simp] theorem lkdO_nx (i e st) : lkdO i (.nx e st) = match e[i]? with
    | some (some (.lkd ks vs)) => .nx (e.set i (some (.ownd ks vs))) st
    | _ => .bad := rfl
/-- the own dict of slot i is only looked at meanwhile -/
@[simp] def dLockD (i : Nat) (d : DS) : DS := fun env st => match env[i]? with
  | some (some (.ownd ks vs)) => lkdO i (d (env.set i (some (.lkd ks vs))) st)
  | _ => d env st
theorem snd_lockD {t : TS} {d : DS} (i : Nat) (h : SndS K Z W t d) : SndS K Z W (fun D σ H => t D σ H ∨ tLock t D σ H) (dLockD i d) := by
  intro S σ H env st D r p
  unfold dLockD at p
  split at p
  · rename_i ks vs e
    have hi : i < env.length := (List.getElem?_eq_some_iff.mp e).1
    obtain ⟨x, h1, h2⟩ := r.sl i _ e
    obtain ⟨l, kxs, rfl, hl, g, hk, rl⟩ := h2
    have hown : OwnA env σ l := ⟨i, _, e, rfl, h1⟩
    refine .inr ⟨l, _, hl, trivial, fun od => ?_⟩
    have oth : ∀ (j : Nat) (t : Slot), j ≠ i → env[j]? = some (some t) → t.isAddr = true → σ[j]? ≠ some (some (V.ref l)) := fun j t nj k1 k2 k3 => r.sep i j _ t l (Ne.symm nj) e rfl k1 k2 h1 k3
    have r2 : SR K Z S σ (upd H l (.frz od (.dK kxs))) (env.set i (some (.lkd ks vs))) st :=
      r.chg hi h1 hl id g oth ⟨l, kxs, rfl, ⟨⟨od, upd_same⟩, g.m⟩, hk, rl⟩
    have ow : ∀ a, OwnA (env.set i (some (.lkd ks vs))) σ a → OwnA env σ a ∧ a ≠ l := fun a ⟨j, t, k1, k2, k3⟩ => by
      rcases set_some k1 with ⟨_, e1⟩ | ⟨nj, k1⟩
      · rw [e1] at k2; cases k2
      · exact ⟨⟨j, t, k1, k2, k3⟩, fun z => oth j t nj k1 (own_addr k2) (z ▸ k3)⟩
    refine h S σ _ _ st _ r2 ?_
    cases ed : d (env.set i (some (.lkd ks vs))) st with
    | bad => rw [ed] at p; exact p.elim
    | bk _ _ => rw [ed] at p; exact p.elim
    | ct _ _ => rw [ed] at p; exact p.elim
    | rt _ _ => rw [ed] at p; exact p.elim
    | exc _ _ _ _ => rw [ed] at p; exact p.elim
    | nx env' st' =>
      rw [ed] at p
      intro S' σ' H' e1 r1
      have lk : (env.set i (some (.lkd ks vs)))[i]? = some (some (.lkd ks vs)) := List.getElem?_set_self hi
      have nl : ¬ OwnA (env.set i (some (.lkd ks vs))) σ l := fun z => (ow l z).2 rfl
      have hl' : H' l = some (.frz od (.dK kxs)) := e1.frame l _ upd_same (kp_of g.m) nl
      refine ⟨hl', ?_⟩
      simp only [lkdO_nx] at p
      split at p
      · rename_i ks' vs' eb
        obtain ⟨b1, b2⟩ := e1.brw i _ eb rfl rfl
        rw [lk] at b1
        cases b1
        have q' : σ'[i]? = some (some (.ref l)) := b2.trans h1
        have hi' : i < env'.length := (List.getElem?_eq_some_iff.mp eb).1
        have g' : Ng S' l := by
          refine ⟨?_, fun m => ?_⟩
          · cases q : S'.G l with
            | none => rfl
            | some u =>
              rcases e1.fresh l (by rw [q]; simp) with z | z | z
              · exact absurd g.g z
              · rw [upd_same] at z; cases z
              · exact absurd z nl
          · rcases e1.rfresh l m with z | z
            · exact g.m z
            · rw [upd_same] at z; cases z
        have oth' : ∀ (j : Nat) (t : Slot), j ≠ i → env'[j]? = some (some t) → t.isAddr = true → σ'[j]? ≠ some (some (V.ref l)) := fun j t nj k1 k2 k3 => by
          cases ho : t.isOwn with
          | true =>
            rcases e1.own l ⟨j, t, k1, ho, k3⟩ with z | z
            · exact nl z
            · rw [upd_same] at z; cases z
          | false =>
            obtain ⟨z1, z2⟩ := e1.brw j t k1 k2 ho
            rw [List.getElem?_set_ne (Ne.symm nj)] at z1
            rw [z2] at k3
            exact oth j t nj z1 k2 k3
        refine p S' σ' _ ⟨e1.pre, e1.sg, fun a ha => ?_, fun a u ha n no => ?_, fun a ha => ?_, fun a ha => ?_, fun a ha => ?_, ?_, fun j t hj t1 t2 => ?_⟩ (r1.chg hi' q' hl' id g' oth' ⟨l, kxs, rfl, upd_same, g', hk, RepL.mono e1.mon _ _ rl⟩)
        · rcases e1.fresh a ha with z | z | z
          · exact .inl z
          · by_cases y : a = l
            · rw [y, upd_same] at z; cases z
            · rw [upd_ne y] at z; exact .inr (.inl z)
          · exact .inr (.inr (ow a z).1)
        · have na : a ≠ l := fun z => no (z ▸ hown)
          rw [upd_ne na]
          exact e1.frame a u (by rw [upd_ne na]; exact ha) n fun y => no (ow a y).1
        · by_cases y : a = l
          · rw [y, upd_same]; simp
          · rw [upd_ne y]; exact e1.live a (by rw [upd_ne y]; exact ha)
        · rcases e1.rfresh a ha with z | z
          · exact .inl z
          · by_cases y : a = l
            · rw [y, upd_same] at z; cases z
            · rw [upd_ne y] at z; exact .inr z
        · obtain ⟨j, t, k1, k2, k3⟩ := ha
          rcases set_some k1 with ⟨ej, es⟩ | ⟨nj, k1⟩
          · rw [ej, q'] at k3
            cases k3
            exact .inl hown
          · rcases e1.own a ⟨j, t, k1, k2, k3⟩ with z | z
            · exact .inl (ow a z).1
            · by_cases y : a = l
              · rw [y, upd_same] at z; cases z
              · rw [upd_ne y] at z; exact .inr z
        · rw [List.length_set]; exact e1.len.trans List.length_set
        · rcases set_some hj with ⟨ej, es⟩ | ⟨nj, hj⟩
          · rw [es] at t2; cases t2
          · obtain ⟨z1, z2⟩ := e1.brw j t hj t1 t2
            rw [List.getElem?_set_ne (Ne.symm nj)] at z1
            exact ⟨z1, z2⟩
      · exact p.elim
  · exact .inl (h S σ H env st D r p)
end
section
variable {Z : Stc} {X : Cx} {W : WX}
theorem ps_or {s : Stmt} {t t' : TS} (h : PS X s t) (h' : PS X s t') : PS X s (fun D σ H => t D σ H ∨ t' D σ H) :=
  ⟨fun pins sh σ H D I q => q.elim (h.run pins sh σ H D I) (h'.run pins sh σ H D I)⟩
theorem ms_lockD {s : Stmt} {d : DS} (i : Nat) (h : MS Z X W s d) : MS Z X W s (dLockD i d) := let ⟨t, h1, h2⟩ := h; ⟨_, ps_or h1 (ps_lock h1), snd_lockD i h2⟩
/-! walks over a slot's dict -/
def dicS : Option (Option Slot) → Option (List Key × List Val)
  | some (some (.lkd ks vs)) => some (ks, vs)
  | some (some (.val (.dic ks vs))) => some (ks, vs)
  | _ => none
@[simp] theorem dicS_lkd (ks vs) : dicS (some (some (.lkd ks vs))) = some (ks, vs) := rfl
@[simp] theorem dicS_val (ks vs) : dicS (some (some (.val (.dic ks vs)))) = some (ks, vs) := rfl
def dWalk (f : List Key → List Val → List Val) (i : Nat) : DI := fun env st => match dicS env[i]? with
  | some p => .ok (f p.1 p.2) st
  | none => .bad
theorem walk_still {K : PySem.W.Frag} {S : Gh} {H : Hp} {σ : St} {env : Evn} {st : Store} (r : SR K Z S σ H env st) {i : Nat} {p : List Key × List Val} (e : dicS env[i]? = some p) :
    ∃ l o kxs, σ[i]? = some (some (.ref l)) ∧ H l = some (.frz o (.dK kxs)) ∧ (∀ H2, Fr S H env σ H2 → H2 l = some (.frz o (.dK kxs))) ∧ kxs.map (·.1) = p.1 ∧ RepL K Z S p.2 (kxs.map (·.2)) := by
  unfold dicS at e
  split at e
  · rename_i ks vs ei
    cases e
    obtain ⟨x, h1, h2⟩ := r.sl i _ ei
    obtain ⟨l, kxs, rfl, hl, hk, hr⟩ := h2
    obtain ⟨o, ho⟩ := hl.h
    have no := brw_not_own r ei rfl rfl h1
    exact ⟨l, o, kxs, h1, ho, fun H2 f => f _ _ ho (kp_of hl.m) no, hk, hr⟩
  · rename_i ks vs ei
    cases e
    obtain ⟨x, h1, h2⟩ := r.sl i _ ei
    obtain ⟨l, o, kxs, rfl, a, b, c, d⟩ := still_of (v := .non) r r h2
    exact ⟨l, o, kxs, h1, a, b, c, d⟩
  · cases e
theorem mi_valsS {tg : Expr} {x : Str} {p apos cpos : Pos} (i : Nat) (h : PE X (.Name x p) (tVar i)) (hb : attributeBase (.Name x p) "values" X.env (eval (.Name x p) X.env) = eval (.Name x p) X.env := by rfl) (hl : (apos.endLine == cpos.line) = true := by rfl) : MI Z X W tg (.Call (.Attribute (.Name x p) "values" apos) [] [] cpos) (dWalk (fun _ vs => vs) i) := by
  refine ⟨_, pi_values h hb hl, fun S σ H env st R r po => ?_⟩
  unfold dWalk at po
  cases e : dicS env[i]? with
  | none => rw [e] at po; exact po.elim
  | some q =>
    rw [e] at po
    obtain ⟨l, o, kxs, h1, hh, hs, hk, hr⟩ := walk_still r e
    exact ⟨_, h1, l, o, kxs, rfl, hh, po _ S H (Ext.refl S H) r.wf r.str (gives_vals hs hr)⟩
theorem mi_keysS {tg : Expr} {x : Str} {p : Pos} (i : Nat) (h : PE X (.Name x p) (tVar i)) : MI Z X W tg (.Name x p) (dWalk (fun ks _ => ks.map keyV) i) := by
  refine ⟨_, pi_keys h, fun S σ H env st R r po => ?_⟩
  unfold dWalk at po
  cases e : dicS env[i]? with
  | none => rw [e] at po; exact po.elim
  | some q =>
    rw [e] at po
    obtain ⟨l, o, kxs, h1, hh, hs, hk, hr⟩ := walk_still r e
    exact ⟨_, h1, l, o, rfl, .inl ⟨kxs, hh, po _ S H (Ext.refl S H) r.wf r.str (gives_keys hs hk)⟩⟩
theorem mi_itmsS {elts : List Expr} {kk : Nat} {tpos : Pos} {x : Str} {p apos cpos : Pos} (i : Nat) (h : PE X (.Name x p) (tVar i)) (hb : attributeBase (.Name x p) "items" X.env (eval (.Name x p) X.env) = eval (.Name x p) X.env := by rfl) (hl : (apos.endLine == cpos.line) = true := by rfl) : MI Z X W (.Tuple elts kk tpos) (.Call (.Attribute (.Name x p) "items" apos) [] [] cpos) (dWalk itemsK i) := by
  refine ⟨_, pi_items h hb hl, fun S σ H env st R r po => ?_⟩
  unfold dWalk at po
  cases e : dicS env[i]? with
  | none => rw [e] at po; exact po.elim
  | some q =>
    rw [e] at po
    obtain ⟨l, o, kxs, h1, hh, hs, hk, hr⟩ := walk_still r e
    exact ⟨_, h1, l, o, kxs, rfl, hh, po _ S H (Ext.refl S H) r.wf r.str (gives_itms hs hk hr)⟩
end
end Eg

namespace Eg
open PySem PySem.Spec PyProof.Rows L2
/-! try .. except X: without a name -/
@[simp] def noX : OutS → OutS
  | .exc _ _ _ _ => .bad
  | o => o
def tryOO (Ds : List Nat) (n k : Nat) (su : DS) : OutS → OutS
  | .exc c [] e st => if Ds.contains c = true ∧ k < n then (if subc c k = true then noX (su e st) else .exc c [] e st) else .bad
  | .exc _ _ _ _ => .bad
  | o => o
@[simp] theorem tryOO_nx (Ds n k su e st) : tryOO Ds n k su (.nx e st) = .nx e st := rfl
@[simp] theorem tryOO_rt (Ds n k su r st) : tryOO Ds n k su (.rt r st) = .rt r st := rfl
@[simp] theorem tryOO_bk (Ds n k su e st) : tryOO Ds n k su (.bk e st) = .bk e st := rfl
@[simp] theorem tryOO_ct (Ds n k su e st) : tryOO Ds n k su (.ct e st) = .ct e st := rfl
@[simp] theorem tryOO_exc (Ds n k su c e st) : tryOO Ds n k su (.exc c [] e st) = if Ds.contains c = true ∧ k < n then (if subc c k = true then noX (su e st) else .exc c [] e st) else .bad := rfl
@[simp] def dTryO (Ds : List Nat) (n k : Nat) (b : DS) (su : DS) : DS := fun env st => tryOO Ds n k su (b env st)
section
variable {Z : Stc} {X : Cx} {W : WX}
def tSuO (K : PySem.W.Frag) (Z : Stc) (Ds : List Nat) (su : DS) (a : Addr) (cls : Value) (d : Option Addr) : TS := fun D σ H => ∃ c, c ∈ Ds ∧ cls = .ref (Z.cls c) ∧ d = none ∧ tOfS K Z W0 su D σ H
theorem ms_tryO {Ds : List Nat} {n k : Nat} {x : Str} {body suite : List Stmt} {b₀ : Stmt} {np pos pos' : Pos} {db : DS} {su : DS}
    (hs : X.stack = X.env :: X.outer) (hf : X.env.frame = some X.env.locals) (hc : Names X x (.ref (Z.cls k))) (tk : Takes X W) (xt : XT X.K Z Ds n)
    (hb : ∀ (W : WX) (pn : List (Addr × Obj)) (xe : Value → Shared → Prop), Takes (X.tr pn xe) W → PassesOwn (model X.prog X.w) X.A X.env xe → MSs Z (X.tr pn xe) W body db)
    (hsu : ∀ (a : Addr) (oe : Obj) (c : Nat) (pn : List (Addr × Obj)), c ∈ Ds → Zc (.ref (Z.cls c)) none oe → (∃ vs, oe.data = .fields vs) → MSs Z (X.suite a ((a, oe) :: pn)) W0 (b₀ :: suite) su) :
    MS Z X W (.Try body [.ExceptHandler (some (.Name x np)) none (b₀ :: suite) pos'] [] [] pos) (dTryO Ds n k db su) := by
  refine ⟨_, ps_try_only (tb := fun W => tOfS X.K Z W db) (ts := tSuO X.K Z Ds su) hs hf hc tk (fun W pn xe t p => pss_of (X := X.tr pn xe) (hb W pn xe t p)) (fun a oe cls d pn hz hv => ⟨fun pins s σ H D I h => ?_⟩), fun S σ H env st D r p => ?_⟩
  · obtain ⟨c, hcD, rfl, rfl, h⟩ := h
    exact (pss_of (X := X.suite a ((a, oe) :: pn)) (hsu a oe c pn hcD hz hv)).run pins s σ H D I h
  · refine ⟨S, env, st, r, ?_⟩
    simp only [dTryO] at p
    cases e : db env st with
    | bad => simp only [e, tryOO, PostS] at p
    | nx e1 s1 => simp only [e, tryOO] at p; exact p
    | bk e1 s1 => simp only [e, tryOO] at p; exact p
    | ct e1 s1 => simp only [e, tryOO] at p; exact p
    | rt r1 s1 => simp only [e, tryOO] at p; exact p
    | exc c fs e1 s1 =>
      cases fs with
      | cons f fs => simp only [e, tryOO, PostS] at p
      | nil =>
        simp only [e, tryOO] at p
        split at p
        case isFalse => exact p.elim
        rename_i hg
        obtain ⟨hcD, hk⟩ := hg
        have hcD' : c ∈ Ds := by simpa using hcD
        intro cls d S' σ' H' x1 r1 xr
        obtain ⟨rfl, hd⟩ := xr
        have hd0 : d = none := by
          rcases hd with hd | ⟨_, _, z, _⟩
          · exact hd.2
          · exact absurd rfl z
        refine ⟨subc c k, xt.exm c hcD' k hk, fun hb1 a na => ?_, fun hb0 => ?_⟩
        · rw [if_pos hb1] at p
          refine ⟨c, hcD', rfl, hd0, S', e1, s1, r1, ?_⟩
          cases es : su e1 s1 with
          | bad => simp only [es, noX, PostS] at p
          | exc c2 fs2 e2 s2 => simp only [es, noX, PostS] at p
          | rt r2 s2 => simp only [es, noX] at p; exact PostS.later x1 p
          | nx e2 s2 => simp only [es, noX] at p; exact PostS.later x1 p
          | bk e2 s2 => simp only [es, noX] at p; exact PostS.later x1 p
          | ct e2 s2 => simp only [es, noX] at p; exact PostS.later x1 p
        · rw [if_neg (by rw [hb0]; exact Bool.false_ne_true)] at p
          exact p (.ref (Z.cls c)) d S' σ' H' x1 r1 ⟨rfl, hd⟩
end
end Eg

/-! Lists that are changed by more than one frame: cells of the store. -/
namespace Eg
open PySem L2
def cellOf (o : Ob) : Option (List Val) := if o.c = cL then (match o.fs with | [(_, .lst vs)] => some vs | _ => none) else none
@[simp] theorem cellOf_L (vs : List Val) : cellOf (cellL vs) = some vs := by simp [cellOf]
section
variable {K : PySem.W.Frag} {Z : Stc} {S S1 : Gh} {H H1 : Hp} {W : WX} {σ : St} {env : Evn} {st st1 : Store}
theorem cellOf_R {n : Nat} {o : Ob} {vs : List Val} (r : ObR K Z S H n o) (e : cellOf o = some vs) : o = cellL vs ∧ ∃ a xs, S.rho[n]? = some a ∧ n ∉ S.dd ∧ H a = some (.lst xs) ∧ RepL K Z S vs xs := by
  unfold cellOf at e
  split at e
  · rename_i hc
    rcases r with ⟨b, dx, fs, hcl, ha, hd', hh, hf⟩ | ⟨vs', e', b, xs, ha, hd', hh, hf⟩ | ⟨ks, vs', e', b, kxs, ha, hd', hh, hk, hf⟩ | ⟨e', b, ha, hd'⟩
    · rw [hc] at hcl; exact absurd hcl (Nat.lt_irrefl _)
    · subst e'
      simp at e
      subst e
      exact ⟨rfl, b, xs, ha, hd', hh, hf⟩
    · subst e'; exact absurd hc (show ¬ cD = cL by decide)
    · subst e'; exact absurd hc (show ¬ cX = cL by decide)
  · cases e
/-- an own list goes to the store -/
theorem mt_take {H0 : Hp} {S0 : Gh} {l : Addr} {o : HO} {p : Ob} (e : Ext S0 H0 S H) (w : Wf S H) (s : StR K Z S H st) (h0 : H0 l = none) (ha : H l = some o) (mo : Mb o) (g : Ng S l)
    (hp : ∀ S' : Gh, S'.rho[st.length]? = some l → st.length ∉ S'.dd → Mon S S' → ObR K Z S' H st.length p) :
    Ext S0 H0 ⟨S.rho ++ [l], S.G, S.dd⟩ H ∧ Wf ⟨S.rho ++ [l], S.G, S.dd⟩ H ∧ StR K Z ⟨S.rho ++ [l], S.G, S.dd⟩ H (st ++ [p]) := by
  have mta : ∀ (i : Nat) b, (S.rho ++ [l])[i]? = some b → (i < S.rho.length ∧ S.rho[i]? = some b) ∨ (i = S.rho.length ∧ b = l) := fun i b e' => by
    by_cases hi : i < S.rho.length
    · rw [List.getElem?_append_left hi] at e'
      exact .inl ⟨hi, e'⟩
    · rw [List.getElem?_append_right (by omega)] at e'
      have z := (List.getElem?_eq_some_iff.mp e').1
      have := List.mem_of_getElem? e'
      exact .inr ⟨by simp at z; omega, List.mem_singleton.mp this⟩
  have mtb : ∀ b, Gh.mt ⟨S.rho ++ [l], S.G, S.dd⟩ b → S.mt b ∨ b = l := fun b ⟨i, e, n⟩ => by
    rcases mta i b e with z | z
    · exact .inl ⟨i, z.2, n⟩
    · exact .inr z.2
  have mon : Mon S ⟨S.rho ++ [l], S.G, S.dd⟩ := ⟨⟨[l], rfl⟩, Same.refl _⟩
  have ex : Ext S0 H0 ⟨S.rho ++ [l], S.G, S.dd⟩ H := by
    obtain ⟨m, hm⟩ := e.pre
    exact ⟨⟨m ++ [l], by simp [hm]⟩, e.sg, e.fresh, e.frame, e.live, fun b h => (mtb b h).elim (e.rfresh b) fun z => .inr (by rw [z]; exact h0)⟩
  have nl : S.rho.length ∉ S.dd := fun z => Nat.lt_irrefl _ (s.dl _ z)
  have ge : (S.rho ++ [l])[st.length]? = some l := by
    rw [s.len, List.getElem?_append_right (Nat.le_refl _)]
    simp
  refine ⟨ex, ⟨w.same, w.frz, fun b h => ?_, fun b h => ?_⟩, ⟨s.tab, by simp [s.len], fun i j b ei ej di dj => ?_, fun i hi => ?_, fun i q e => ?_⟩⟩
  · rcases mtb b h with h | rfl
    · exact w.ins b h
    · exact ⟨_, ha, mo⟩
  · rcases mtb b h with h | rfl
    · exact w.ng b h
    · exact g.g
  · rcases mta i b ei with ⟨z1, z2⟩ | ⟨z1, z2⟩
    · rcases mta j b ej with ⟨y1, y2⟩ | ⟨y1, y2⟩
      · exact s.nd i j b z2 y2 di dj
      · rw [y2] at z2
        exact absurd ⟨i, z2, di⟩ g.m
    · rcases mta j b ej with ⟨y1, y2⟩ | ⟨y1, y2⟩
      · rw [z2] at y2
        exact absurd ⟨j, y2, dj⟩ g.m
      · omega
  · have := s.dl i hi
    simp only [List.length_append, List.length_singleton]
    omega
  · by_cases hi : i < st.length
    · rw [List.getElem?_append_left hi] at e
      exact (s.ob i q e).to (fun b z => pre_get ⟨[l], rfl⟩ z) Iff.rfl (fun b u _ _ z => z) (fun b u z _ => z) fun vs xs z => RepL.mono mon vs xs z
    · rw [List.getElem?_append_right (by omega)] at e
      obtain ⟨h0, e0⟩ := List.getElem?_eq_some_iff.mp e
      have hi' : i = st.length := by simp at h0; omega
      subst hi'
      simp at e
      subst e
      exact hp _ ge (by rw [s.len]; exact nl) mon
/-- an own list becomes a cell -/
@[simp] def dCell (d : DE) : DE := fun env st => (d env st).bind fun r st1 => match r with
  | .own vs => .ok (.val (.obj st1.length)) (st1 ++ [cellL vs])
  | _ => .bad
theorem snd_cell {t : TE} {d : DE} (h : Snd K Z W (rpE K Z) t d) : Snd K Z W (rpE K Z) t (dCell d) := by
  intro S σ H env st Q r p
  refine h S σ H env st Q r ?_
  cases ed : d env st with
  | bad => simp only [dCell, ed, Out.bind, Post] at p
  | exc c fs st1 =>
    simp only [dCell, ed, Out.bind, Post] at p ⊢
    exact p
  | ok v st1 =>
    simp only [dCell, ed, Out.bind] at p
    cases v with
    | val v => exact p.elim
    | ownd ks vs => exact p.elim
    | own vs =>
      intro y S1 H1 e1 w1 s1 rp
      obtain ⟨l, xs, rfl, hl, g, h0, rl⟩ := rp
      obtain ⟨x1, x2, x3⟩ := mt_take (p := cellL vs) e1 w1 s1 h0 hl trivial g fun S' q1 q2 mo => .lst vs rfl l xs q1 q2 hl (RepL.mono mo _ _ rl)
      refine p (.ref l) _ H1 x1 x2 x3 ?_
      show Rep K Z _ (.obj st1.length) (.ref l)
      simp only [Rep]
      refine ⟨l, ?_, rfl⟩
      rw [s1.len, List.getElem?_append_right (Nat.le_refl _)]
      simp
end
section
variable {Z : Stc} {X : Cx} {W : WX}
theorem me_cell {e : Expr} {d : DE} (h : ME Z X W e d) : ME Z X W e (dCell d) := let ⟨t, h1, h2⟩ := h; ⟨t, h1, snd_cell h2⟩
/-- x.append(e): x is a cell -/
@[simp] def dAppC (i : Nat) (d : DP) : DS := fun env st => match env[i]? with
  | some (some (.val (.obj n))) => match st[n]?.bind cellOf with
    | some _ => dExpS (d env st) env fun v st1 => match st1[n]?.bind cellOf with
      | some vs => if vs.length < sizeLine then .nx env (st1.set n (cellL (vs ++ [v]))) else .bad
      | none => .bad
    | none => .bad
  | _ => .bad
theorem ms_appC {i : Nat} {x : Str} {e : Expr} {d : DP} {p apos cpos pos : Pos} (hx : PE X (.Name x p) (tVar i)) (h : MV Z X W e d)
    (hs : swapsWith (.Call (.Attribute (.Name x p) "append" apos) [e] [] cpos) none pos.line X.env = pure false := by rfl)
    (hbase : attributeBase (.Name x p) "append" X.env (eval (.Name x p) X.env) = eval (.Name x p) X.env := by rfl)
    (hfew : ((backTo cpos (starEach (e :: []) X.env)).all (fun x => !x.1) && (backToKw cpos (keywordEach [] X.env)).all (fun x => x.1.isSome)
      && decide ((e :: []).length + ([] : List Keyword).length + (if ([] : List Keyword).isEmpty then 0 else 1) < 30)) = true := by rfl)
    (hline : (apos.endLine == cpos.line) = true := by rfl) (hst : starEach (e :: []) X.env = (false, eval e X.env) :: starEach [] X.env := by rfl) (hplain : (backTo cpos (starEach [] X.env)).any (·.1) = false := by rfl) :
    MS Z X W (.Expr (.Call (.Attribute (.Name x p) "append" apos) [e] [] cpos) pos) (dAppC i d) := by
  obtain ⟨t, h1, h2⟩ := h
  refine ⟨_, ps_expr (pe_bm PySem.F.plainAttrs_list PySem.F.slot_list_append PySem.F.type_list_append mt_append hx (pa_cons h1 pa_nil hst) hbase hfew hline hst hplain) hs, fun S σ H env st D r p => ?_⟩
  unfold dAppC at p
  split at p
  · rename_i n ei
    split at p
    · rename_i vs0 ec
      obtain ⟨o, eo, ec⟩ := Option.bind_eq_some_iff.mp ec
      obtain ⟨x0, k1, k2⟩ := r.sl i _ ei
      obtain ⟨a, ea, rfl⟩ := (show ∃ a, S.rho[n]? = some a ∧ x0 = .ref a by simpa only [SlR, Rep] using k2)
      obtain ⟨_, a', xs, ea', ed, hl, rl⟩ := cellOf_R (r.str.ob n o eo) ec
      rw [ea] at ea'
      cases ea'
      refine ⟨_, k1, tyV_lst hl, h2 S σ H env st _ r ?_⟩
      refine PostS.of_any (RP := rpV X.K Z H) (f := fun v st1 => match st1[n]?.bind cellOf with
        | some vs => if vs.length < sizeLine then .nx env (st1.set n (cellL (vs ++ [v]))) else .bad
        | none => .bad) r p fun v st' y S' H' e1 r1 q p' => ?_
      split at p'
      · rename_i vs ec'
        obtain ⟨o', eo', ec'⟩ := Option.bind_eq_some_iff.mp ec'
        obtain ⟨eo'', a', xs', ea', ed', hl', rl'⟩ := cellOf_R (r1.str.ob n o' eo') ec'
        have := pre_get e1.pre ea
        rw [this] at ea'
        cases ea'
        by_cases hz : vs.length < sizeLine
        · rw [if_pos hz] at p'
          refine ⟨a, xs', y, rfl, rfl, hl', by rw [← repL_length rl']; exact hz, ?_⟩
          obtain ⟨x1, x2, x3⟩ := mt_upd (v := .lst (xs' ++ [y])) (p := cellL (vs ++ [v])) r1.wf r1.str eo' this ed' hl' (fun z => z) trivial (.lst (vs ++ [v]) rfl a (xs' ++ [y]) this ed' upd_same (repL_append rl' (repL_cons q repL_nil)))
          exact p' S' σ _ ((e1.toS env σ).trans (x1.toS env σ)) (r1.ext x1 x2 x3)
        · rw [if_neg hz] at p'
          exact p'.elim
      · exact p'.elim
    · exact p.elim
  · exact p.elim
end
end Eg

/-! A comprehension over a cell: the list stays as it is meanwhile. -/
namespace Eg
open PySem L2
open Classical in
noncomputable def ck {α : Type} (n : Nat) (vs0 : List Val) (st : Store) (o : Out α) : Out α := if st[n]?.bind cellOf = some vs0 then o else .bad
theorem ck_eq {α : Type} {n : Nat} {vs0 : List Val} {st : Store} {o : Out α} (h : st[n]? = some (cellL vs0)) : ck n vs0 st o = o := by
  unfold ck
  rw [if_pos (by rw [h]; exact cellOf_L vs0)]
noncomputable def dCompGoC (n : Nat) (vs0 : List Val) (T : Tgt) (t : DT) (d : DP) (env : Evn) : List Val → List Val → Store → Out R
  | [], acc, st => ck n vs0 st (.ok (.own acc) st)
  | v :: r, acc, st => ck n vs0 st (match setT T (.val v) env with
    | none => .bad
    | some env1 => (t env1 st).calm.bind fun b st => if b = true then (d env1 st).calm.bind fun w st => if acc.length < sizeLine then dCompGoC n vs0 T t d env r (acc ++ [w]) st else .bad else dCompGoC n vs0 T t d env r acc st)
noncomputable def dCompC (i : Nat) (ws : List Nat) (T : Tgt) (t : DT) (d : DP) : DE := fun env st => match env[i]? with
  | some (some (.val (.obj n))) => match st[n]?.bind cellOf with
    | some vs => dCompGoC n vs T t d (wipeE env ws) vs [] st
    | none => .bad
  | _ => .bad
/-- a comprehension that leaves the store as it is -/
theorem comp_cell {α : Type} {i n : Nat} {ws : List Nat} {T : Tgt} {d : DP} {env : Evn} {st : Store} (enc f : α → Val) (l : List α) (e1 : env[i]? = some (some (.val (.obj n)))) (e2 : st[n]? = some (cellL (l.map enc)))
    (h : ∀ a ∈ l, ∃ env1, setT T (.val (enc a)) (wipeE env ws) = some env1 ∧ d env1 st = .ok (f a) st) (hl : l.length ≤ 16777216) : dCompC i ws T dYes d env st = .ok (.own (l.map f)) st := by
  have go : ∀ (r : List α) (acc : List Val), (∀ a ∈ r, a ∈ l) → acc.length + r.length ≤ 16777216 → dCompGoC n (l.map enc) T dYes d (wipeE env ws) (r.map enc) acc st = .ok (.own (acc ++ r.map f)) st := by
    intro r
    induction r with
    | nil => intro acc _ _; simp only [List.map_nil, dCompGoC, ck_eq e2, List.append_nil]
    | cons a r ih =>
      intro acc hm ha
      obtain ⟨env1, h1, h2⟩ := h a (hm a List.mem_cons_self)
      have hz : acc.length < sizeLine := by rw [sizeLine_eq]; simp at ha; omega
      simp only [List.map_cons, dCompGoC, ck_eq e2, h1, dYes, Out.calm, Out.bind, if_true, h2, hz, if_pos]
      rw [ih (acc ++ [f a]) (fun x hx => hm x (List.mem_cons_of_mem _ hx)) (by simp at ha ⊢; omega)]
      simp
  unfold dCompC
  rw [e1]
  simp only [e2, Option.bind, cellOf_L]
  exact go l [] (fun _ h => h) (by simpa using hl)
section
variable {K : PySem.W.Frag} {Z : Stc} {S : Gh} {H : Hp} {W : WX}
theorem ck_post {α β : Type} {RP : Gh → Hp → α → β → Prop} {Q : β → Hp → Prop} {V : Value → Option Addr → Hp → Prop} {n : Nat} {vs0 : List Val} {st : Store} {o : Out α} (p : Post K Z S H RP Q V (ck n vs0 st o)) : st[n]?.bind cellOf = some vs0 ∧ Post K Z S H RP Q V o := by
  unfold ck at p
  split at p
  · exact ⟨by assumption, p⟩
  · exact p.elim
theorem snd_compC {i0 : Nat} {T : Tgt} {t : DT} {d : DP} {ws : List Nat}
    (hT : ∀ (σ : St) (x : V) (H : Hp) (Q : St → Hp → Prop), gT K T x (wipe σ ws) H Q → gT K T x (wipe σ ws) H fun σ2 H2 => wipe σ2 ws = wipe σ ws ∧ Q σ2 H2) :
    Snd K Z W (rpE K Z) (tLc (iList K (tVar i0)) (gT K T) (tOf K Z W0 rpT t) (tOf K Z W0 (rpV K Z) d) ws) (dCompC i0 ws T t d) := by
  intro S0 σ H0 env st0 Q r0 p0
  unfold dCompC at p0
  split at p0
  case h_2 => exact p0.elim
  rename_i n ei
  split at p0
  case h_2 => exact p0.elim
  rename_i items ec
  obtain ⟨o, eo, ec⟩ := Option.bind_eq_some_iff.mp ec
  obtain ⟨x0, k1, k2⟩ := r0.sl i0 _ ei
  obtain ⟨a, ea, rfl⟩ := (show ∃ a, S0.rho[n]? = some a ∧ x0 = .ref a by simpa only [SlR, Rep] using k2)
  obtain ⟨_, a', xs, ea', edd, hl, rl⟩ := cellOf_R (r0.str.ob n o eo) ec
  rw [ea] at ea'
  cases ea'
  have gv : ∀ (i : Nat) S2 H2 st2, Mon S0 S2 → Wf S2 H2 → StR K Z S2 H2 st2 → st2[n]?.bind cellOf = some items → (items.length ≤ i → (Itl K a).stop i H2) ∧
      ∀ v, items[i]? = some v → (Itl K a).go i H2 ∧ ∀ x H3, (Itl K a).yld i H2 x H3 → ∃ S3, ExtP S2 H2 S3 H3 ∧ Rep K Z S3 v x := by
    intro i S2 H2 st2 mo w2 s2 c2
    obtain ⟨o2, eo2, ec2⟩ := Option.bind_eq_some_iff.mp c2
    obtain ⟨_, a2, xs2, ea2, _, hl2, rl2⟩ := cellOf_R (s2.ob n o2 eo2) ec2
    rw [pre_get mo.pre ea] at ea2
    cases ea2
    have sq : SqL K H2 a xs2 := .inl (.inl hl2)
    refine ⟨fun hle => ⟨xs2, sq, by rw [← repL_length rl2]; exact hle⟩, fun v hv => ?_⟩
    obtain ⟨x, q1, q2⟩ := repL_get rl2 hv
    refine ⟨⟨xs2, x, sq, q1⟩, fun y H3 hy => ?_⟩
    obtain ⟨rfl, hy⟩ := hy
    have e := hy xs2 sq
    rw [q1] at e
    cases e
    exact ⟨S2, ExtP.refl w2, q2⟩
  refine ⟨.ref a, k1, a, rfl, ⟨xs, .inl (.inl hl)⟩, ?_⟩
  intro D hD
  have r1 := r0
  have hD0 : H0 D = none := hD
  have nA : ¬ AddrA (wipeE env ws) (wipe σ ws) D := fun ⟨i, s, a, b, c⟩ => by
    obtain ⟨a', n⟩ := wipeE_some a
    rw [wipe_out n] at c
    exact addr_live r1 ⟨i, s, a', b, c⟩ hD
  refine ⟨fun i m H => m = items.length - i ∧ i ≤ items.length ∧ ∃ S st av acc, Ext S0 H0 S H ∧ SR K Z S (wipe σ ws) H (wipeE env ws) st ∧ H D = some (.lst acc) ∧ Ng S D ∧ RepL K Z S av acc ∧
    Post K Z S0 H0 (rpE K Z H0) Q (fun c dd H' => W c dd σ H') (dCompGoC n items T t d (wipeE env ws) (items.drop i) av st), ⟨items.length, by simp, Nat.zero_le _, S0, st0, [], [], ?_⟩, ?_⟩
  · have E := ExtP.new r0.wf hD (o := .lst [])
    exact ⟨E.ext, (r1.wipe ws).ext E.ext E.wf (r0.str.extP E), upd_same, ng_none r0.wf hD, repL_nil, p0⟩
  · rintro i m H ⟨rfl, hi, S, st, av, acc, e, r, hacc, gD, ra, p⟩
    by_cases hlt : i < items.length
    · have hv : items[i]? = some items[i] := List.getElem?_eq_getElem hlt
      have hd : items.drop i = items[i] :: items.drop (i + 1) := List.drop_eq_getElem_cons hlt
      rw [hd] at p
      simp only [dCompGoC] at p
      obtain ⟨hck, p⟩ := ck_post p
      obtain ⟨g1, g2⟩ := gv i S H st e.mon r.wf r.str hck
      obtain ⟨h1, h2⟩ := g2 _ hv
      refine .inr ⟨h1, fun H => i + 1 ≤ items.length ∧ ∃ S st av acc, Ext S0 H0 S H ∧ SR K Z S (wipe σ ws) H (wipeE env ws) st ∧ H D = some (.lst acc) ∧ Ng S D ∧ RepL K Z S av acc ∧
        Post K Z S0 H0 (rpE K Z H0) Q (fun c dd H' => W c dd σ H') (dCompGoC n items T t d (wipeE env ws) (items.drop (i + 1)) av st), fun H' ⟨q1, q2⟩ => ⟨items.length - (i + 1), by omega, rfl, q1, q2⟩, fun x H' hy => ?_⟩
      obtain ⟨S3, e3, rep⟩ := h2 x H' hy
      have r3 := r.ext e3.ext e3.wf (r.str.extP e3)
      have e4 := e.trans e3.ext
      cases es : setT T (.val items[i]) (wipeE env ws) with
      | none => simp only [es, Post] at p
      | some env1 =>
        simp only [es] at p
        refine hT σ x H' _ (sndG T S3 H' (wipeE env ws) (wipe σ ws) S3 _ H' (wipeE env ws) st (.val items[i]) x _ env1 (ExtS.refl ..) r3 rep (fun _ _ => .inr rfl) es fun σ1 e5 r5 => ?_)
        refine ⟨S3, env1, st, r5, ?_⟩
        have hacc3 : H' D = some (.lst acc) := e3.same _ _ hacc
        have gD3 : Ng S3 D := gD.ext e3.ext hacc
        have stepD : ∀ {S4 H4 S5 H5}, Ext S4 H4 S5 H5 → Wf S4 H4 → H4 D = some (.lst acc) → Ng S4 D → H5 D = some (.lst acc) ∧ Ng S5 D := fun {S4 H4 S5 H5} ee w4 hh gg => ⟨ee.frame _ _ hh (kp_of gg.m), gg.ext ee hh⟩
        cases et : t env1 st with
        | bad => simp only [et, Out.calm, Out.bind, Post] at p
        | exc c fs st2 => simp only [et, Out.calm, Out.bind, Post] at p
        | ok b st2 =>
          simp only [et, Out.calm, Out.bind] at p
          intro b' S5 H5 e5' w5 s5 qb
          have eb : b = b' := qb
          subst eb
          obtain ⟨k1, k2⟩ := stepD e5' r5.wf hacc3 gD3
          have e6 := e4.trans e5'
          cases b with
          | false =>
            rw [if_neg Bool.false_ne_true] at p ⊢
            exact ⟨hlt, S5, st2, av, acc, e6, r3.ext e5' w5 s5, k1, k2, RepL.mono (e3.ext.mon.trans e5'.mon) _ _ ra, p⟩
          | true =>
            rw [if_pos rfl] at p ⊢
            refine ⟨S5, env1, st2, r5.ext e5' w5 s5, ?_⟩
            cases ed : d env1 st2 with
            | bad => simp only [ed, Post] at p
            | exc c fs st3 => simp only [ed, Post] at p
            | ok w st3 =>
              simp only [ed] at p
              intro y S7 H7 e7 w7 s7 qy
              obtain ⟨k3, k4⟩ := stepD e7 w5 k1 k2
              by_cases hz : av.length < sizeLine
              · rw [if_pos hz] at p
                have r7 := (r3.ext e5' w5 s5).ext e7 w7 s7
                have m7 := (e3.ext.mon.trans e5'.mon).trans e7.mon
                refine ⟨acc, k3, by rw [← repL_length ra]; exact hz, hlt, S7, st3, av ++ [w], acc ++ [y], (e6.trans e7).out hD, r7.out ⟨_, k3, trivial⟩ k4 nA, upd_same, k4, repL_append (RepL.mono m7 _ _ ra) (repL_cons qy repL_nil), p⟩
              · rw [if_neg hz] at p
                exact p.elim
    · have ei' : i = items.length := by omega
      rw [ei', List.drop_length] at p
      simp only [dCompGoC] at p
      obtain ⟨hck, p⟩ := ck_post p
      obtain ⟨g1, g2⟩ := gv i S H st e.mon r.wf r.str hck
      refine .inl ⟨g1 (by omega), ?_⟩
      refine p _ S H (e) r.wf r.str ?_
      exact ⟨D, acc, rfl, hacc, gD, hD0, ra⟩

end
section
variable {Z : Stc} {X : Cx} {W : WX}
theorem me_lcC {elt tg : Expr} {x : Str} {px : Pos} {ifs : List Expr} {scope : Scope} {own : List (Str × Nat)} {pos : Pos} {i : Nat} {T : Tgt} {t : DT} {d : DP} (hc : X.calm = true) (hN : X.N.Nodup) (hx : PE X (.Name x px) (tVar i)) (ok : BlkOk X.N X.env.scope scope own) (hT : tIn (own.map (·.2)) T = true)
    (hg : ∀ (s : Shared) (H : Hp) (C : Addr) (cl : List (Str × Addr)) (fp : List Addr), MG (X.blk s H scope (compEnvC scope cl C X.env) fp) tg T)
    (ht : ∀ (s : Shared) (H : Hp) (C : Addr) (cl : List (Str × Addr)) (fp : List Addr), MTs Z (X.blk s H scope (compEnvC scope cl C X.env) fp) W0 ifs t)
    (he : ∀ (s : Shared) (H : Hp) (C : Addr) (cl : List (Str × Addr)) (fp : List Addr), MV Z (X.blk s H scope (compEnvC scope cl C X.env) fp) W0 elt d)
    (hs : ∀ y, foldedSetIterable (.Name x px) X.env y = pure y := by intro _; rfl) :
    ME Z X W (.ListComp elt [⟨tg, .Name x px, ifs, 0⟩] scope pos) (dCompC i (own.map (·.2)) T t d) :=
  ⟨_, pe_lc (g := gT X.K T) (tt := tOf X.K Z W0 rpT t) (te := tOf X.K Z W0 (rpV X.K Z) d) hc hN (pi_list hx) ok hg (fun s H C cl fp => pts_of (ht s H C cl fp)) (fun s H C cl fp => pe_of (he s H C cl fp)) hs, snd_compC (gT_keep hT)⟩
end
end Eg

/-! A cell looked at: as the first thing of an operator, by a built-in. -/
namespace Eg
open PySem L2
section
variable {K : PySem.W.Frag} {Z : Stc} {W : WX}
@[simp] def dOpC (g : Val → Val → Option R) (i : Nat) (b : DP) : DE := fun env st => match env[i]? with
  | some (some (.val (.obj n))) => (b env st).bind fun w st1 => match st1[n]?.bind cellOf with
    | some vs => fromO (g (.lst vs) w) st1
    | none => .bad
  | _ => .bad
theorem snd_opC {i : Nat} {tb : TE} {db : DP} {g : Val → Val → Option R} (hb : Snd K Z W (rpP K Z) tb db) : Snd K Z W (rpE K Z) (tOp (rG K Z g) (tVar i) tb) (dOpC g i db) := by
  intro S σ H env st Q r p
  unfold dOpC at p
  split at p
  case h_2 => exact p.elim
  rename_i n ei
  obtain ⟨x0, k1, k2⟩ := r.sl i _ ei
  obtain ⟨a, ea, rfl⟩ := (show ∃ a, S.rho[n]? = some a ∧ x0 = .ref a by simpa only [SlR, Rep] using k2)
  refine ⟨.ref a, k1, hb S σ H env st _ r ?_⟩
  cases e : db env st with
  | bad => simp only [e, Out.bind, Post] at p
  | exc c fs st2 =>
    simp only [e, Out.bind, Post] at p ⊢
    exact p
  | ok w st2 =>
    simp only [e, Out.bind] at p
    intro y S2 H2 e2 w2 s2 p2
    split at p
    case h_2 => exact p.elim
    rename_i vs ec
    obtain ⟨o, eo, ec⟩ := Option.bind_eq_some_iff.mp ec
    obtain ⟨_, a', xs, ea', _, hl, rl⟩ := cellOf_R (s2.ob n o eo) ec
    rw [pre_get e2.pre ea] at ea'
    cases ea'
    cases eg : g (.lst vs) w with
    | none => simp only [eg, fromO, Post] at p
    | some res =>
      simp only [eg, fromO, Post] at p
      refine ⟨S2, .lst vs, w, res, w2, ⟨a, xs, rfl, hl, rl⟩, p2.p, eg, fun x' S' H' e3 rr => ?_⟩
      exact p x' S' H' (e2.trans e3.ext) e3.wf (s2.extP e3) (rr.back fun a h => e2.live a h)
@[simp] def dCBC (g : List Val → Option R) (i : Nat) : DE := fun env st => match env[i]? with
  | some (some (.val (.obj n))) => match st[n]?.bind cellOf with
    | some vs => fromO (g [.lst vs]) st
    | none => .bad
  | _ => .bad
end
section
variable {Z : Stc} {X : Cx} {W : WX}
theorem me_binC {op : Operator} {g : Val → Val → Option R} {i : Nat} {a b : Expr} {db : DP} {pos : Pos} (ho : OpS Z X (binaryOp op) g) (ha : PE X a (tVar i)) (hb : MP Z X W b db) : ME Z X W (.BinOp a op b pos) (dOpC g i db) := by
  obtain ⟨tb, h3, h4⟩ := hb
  exact ⟨_, pe_op ho ha h3, snd_opC h4⟩
theorem me_cmpC {op : CmpOp} {g : Val → Val → Option R} {i : Nat} {a b : Expr} {db : DP} {pos : Pos} (ho : OpS Z X (compareOp op) g) (ha : PE X a (tVar i)) (hb : MP Z X W b db) (hm : behindInMarks op b = false) : ME Z X W (.Compare a [op] [b] pos) (dOpC g i db) := by
  obtain ⟨tb, h3, h4⟩ := hb
  exact ⟨_, pe_cmpR ho ha h3 hm, snd_opC h4⟩
theorem mt_cmpC {op : CmpOp} {g : Val → Val → Option R} {i : Nat} {a b : Expr} {db : DP} {pos : Pos} (ho : OpS Z X (compareOp op) g) (ha : PE X a (tVar i)) (hb : MP Z X W b db) (hm : behindInMarks op b = false) : MT Z X W (.Compare a [op] [b] pos) (dTB (dOpC g i db)) := by
  obtain ⟨tb, h3, h4⟩ := hb
  exact ⟨_, pt_cmpR ho ha h3 hm, snd_tb (snd_opC h4)⟩
theorem me_ixC {i : Nat} {a b : Expr} {db : DP} {pos : Pos} (ha : PE X a (tVar i)) (hb : MP Z X W b db) (hs : PlainIx b := by exact fun _ _ => rfl) : ME Z X W (.Subscript a b pos) (dOpC gIx i db) := by
  obtain ⟨tb, h3, h4⟩ := hb
  exact ⟨_, pe_ix ixs ha h3 hs, snd_opC h4⟩
theorem me_cbC {x : Str} {id : String} {g : List Val → Option R} {i : Nat} {e : Expr} {p pos : Pos} (hc : CallR X (.builtin id) (rC X.K Z g)) (hg : Gl X x) (hm : X.mg x = none) (hv : bootBuiltins x = some (.builtin id)) (ha : PE X e (tVar i))
    (hn : x ≠ "__name__" := by decide) (hdb : (x == ("__debug__" : Str)) = false := by decide)
    (he : starEach [e] X.env = (false, eval e X.env) :: starEach [] X.env := by rfl) (hpl : (backTo pos (starEach [] X.env)).any (·.1) = false := by rfl) : ME Z X W (.Call (.Name x p) [e] [] pos) (dCBC g i) := by
  refine ⟨_, pe_callB hc hg hm hv (pa_cons ha pa_nil he) hn hdb he hpl, fun S σ H env st Q r p => ?_⟩
  unfold dCBC at p
  split at p
  case h_2 => exact p.elim
  rename_i n ei
  split at p
  case h_2 => exact p.elim
  rename_i vs ec
  obtain ⟨o, eo, ec⟩ := Option.bind_eq_some_iff.mp ec
  obtain ⟨x0, k1, k2⟩ := r.sl i _ ei
  obtain ⟨a, ea, rfl⟩ := (show ∃ a, S.rho[n]? = some a ∧ x0 = .ref a by simpa only [SlR, Rep] using k2)
  obtain ⟨_, a', xs, ea', _, hl, rl⟩ := cellOf_R (r.str.ob n o eo) ec
  rw [ea] at ea'
  cases ea'
  cases eg : g [.lst vs] with
  | none => simp only [eg, fromO, Post] at p
  | some res =>
    simp only [eg, fromO, Post] at p
    refine ⟨.ref a, k1, S, [.lst vs], res, r.wf, ⟨.ref a, [], rfl, ⟨a, xs, rfl, hl, rl⟩, rfl⟩, eg, fun x' S' H' e3 rr => ?_⟩
    exact p x' S' H' e3.ext e3.wf (r.str.extP e3) rr
end
end Eg

/-! Texts: startswith, partition, split, int(text). -/
namespace Eg
open PySem PySem.Spec PyProof.Rows L2
@[simp] def gStarts : Val → List Val → Option R
  | .str a, [.str b] => some (.val (.bl (Txt.startswith a b)))
  | _, _ => none
@[simp] def gPart : Val → List Val → Option R
  | .str a, [.str b] => if (b.length == 0) = false ∧ a.length ≤ sizeLine then some (.val (.tup [.str (Txt.partition a b).1, .str (Txt.partition a b).2.1, .str (Txt.partition a b).2.2])) else none
  | _, _ => none
@[simp] def gSplit : Val → List Val → Option R
  | .str a, [.str b] => if (b.length == 0) = false ∧ a.length + 2 ≤ sizeLine then some (.own ((Txt.split a b).map Val.str)) else none
  | _, _ => none
@[simp] def gIntT : List Val → Option R
  | [.str a] => match PySem.intText? a with
    | some n => if a.length ≤ 640 then some (.val (.int n)) else none
    | none => none
  | _ => none
section
variable {Z : Stc} {X : Cx} {W : WX}
theorem me_startswith {o e : Expr} {apos cpos : Pos} {d d1 : DP} (ho : MP Z X W o d) (ha : MPs Z X W [e] (dVals [d1]))
    (hbase : attributeBase o "startswith" X.env (eval o X.env) = eval o X.env := by rfl)
    (hfew : ((backTo cpos (starEach [e] X.env)).all (fun x => !x.1) && (backToKw cpos (keywordEach [] X.env)).all (fun x => x.1.isSome)
      && decide ([e].length + ([] : List Keyword).length + (if ([] : List Keyword).isEmpty then 0 else 1) < 30)) = true := by rfl)
    (hline : (apos.endLine == cpos.line) = true := by rfl) (hs : starEach [e] X.env = (false, eval e X.env) :: starEach [] X.env := by rfl) (hplain : (backTo cpos (starEach [] X.env)).any (·.1) = false := by rfl) :
    ME Z X W (.Call (.Attribute o "startswith" apos) [e] [] cpos) (dBMe "str" gStarts d [d1]) :=
  me_bm PySem.F.plainAttrs_str PySem.F.slot_str_startswith PySem.F.type_str_startswith mt_startswith (fun x xs H Q h => by
    obtain ⟨S, v, vs, r, w, pv, pvs, eg, q⟩ := h
    unfold gStarts at eg
    split at eg
    · rename_i a b
      cases eg
      obtain ⟨y, rfl, p1⟩ := prep1 pvs
      have e1 := (show x = V.str a by simpa only [PRep, Rep] using pv)
      have e2 := (show y = V.str b by simpa only [PRep, Rep] using p1)
      exact ⟨a, b, e1, by rw [e2], q_val w q (by simp only [Rep])⟩
    · cases eg) ho ha hbase hfew hline hs hplain
theorem me_partition {o e : Expr} {apos cpos : Pos} {d d1 : DP} (ho : MP Z X W o d) (ha : MPs Z X W [e] (dVals [d1]))
    (hbase : attributeBase o "partition" X.env (eval o X.env) = eval o X.env := by rfl)
    (hfew : ((backTo cpos (starEach [e] X.env)).all (fun x => !x.1) && (backToKw cpos (keywordEach [] X.env)).all (fun x => x.1.isSome)
      && decide ([e].length + ([] : List Keyword).length + (if ([] : List Keyword).isEmpty then 0 else 1) < 30)) = true := by rfl)
    (hline : (apos.endLine == cpos.line) = true := by rfl) (hs : starEach [e] X.env = (false, eval e X.env) :: starEach [] X.env := by rfl) (hplain : (backTo cpos (starEach [] X.env)).any (·.1) = false := by rfl) :
    ME Z X W (.Call (.Attribute o "partition" apos) [e] [] cpos) (dBMe "str" gPart d [d1]) :=
  me_bm PySem.F.plainAttrs_str PySem.F.slot_str_partition PySem.F.type_str_partition mt_partition (fun x xs H Q h => by
    obtain ⟨S, v, vs, r, w, pv, pvs, eg, q⟩ := h
    unfold gPart at eg
    split at eg
    · rename_i a b
      split at eg
      · rename_i hb
        cases eg
        obtain ⟨y, rfl, p1⟩ := prep1 pvs
        have e1 := (show x = V.str a by simpa only [PRep, Rep] using pv)
        have e2 := (show y = V.str b by simpa only [PRep, Rep] using p1)
        refine ⟨a, b, e1, by rw [e2], hb.1, hb.2, fun p hp => ?_⟩
        refine q _ (S.add p (.tup [.str (Txt.partition a b).1, .str (Txt.partition a b).2.1, .str (Txt.partition a b).2.2])) _ (ExtP.newF w hp trivial) ?_
        simp only [RR, Rep]
        exact ⟨p, _, rfl, .inl (.inl upd_same), repL_cons (by simp only [Rep]) (repL_cons (by simp only [Rep]) (repL_cons (by simp only [Rep]) repL_nil))⟩
      · cases eg
    · cases eg) ho ha hbase hfew hline hs hplain
theorem me_splitT {o e : Expr} {apos cpos : Pos} {d d1 : DP} (ho : MP Z X W o d) (ha : MPs Z X W [e] (dVals [d1]))
    (hbase : attributeBase o "split" X.env (eval o X.env) = eval o X.env := by rfl)
    (hfew : ((backTo cpos (starEach [e] X.env)).all (fun x => !x.1) && (backToKw cpos (keywordEach [] X.env)).all (fun x => x.1.isSome)
      && decide ([e].length + ([] : List Keyword).length + (if ([] : List Keyword).isEmpty then 0 else 1) < 30)) = true := by rfl)
    (hline : (apos.endLine == cpos.line) = true := by rfl) (hs : starEach [e] X.env = (false, eval e X.env) :: starEach [] X.env := by rfl) (hplain : (backTo cpos (starEach [] X.env)).any (·.1) = false := by rfl) :
    ME Z X W (.Call (.Attribute o "split" apos) [e] [] cpos) (dBMe "str" gSplit d [d1]) :=
  me_bm PySem.F.plainAttrs_str PySem.F.slot_str_split PySem.F.type_str_split mt_split (fun x xs H Q h => by
    obtain ⟨S, v, vs, r, w, pv, pvs, eg, q⟩ := h
    unfold gSplit at eg
    split at eg
    · rename_i a b
      split at eg
      · rename_i hb
        cases eg
        obtain ⟨y, rfl, p1⟩ := prep1 pvs
        have e1 := (show x = V.str a by simpa only [PRep, Rep] using pv)
        have e2 := (show y = V.str b by simpa only [PRep, Rep] using p1)
        exact ⟨a, b, e1, by rw [e2], hb.1, hb.2, fun p hp => q_own w q (repL_strs _) p hp⟩
      · cases eg
    · cases eg) ho ha hbase hfew hline hs hplain
theorem cs_intT : CallR X (.type "int") (rC X.K Z gIntT) := by
  intro pins s σ H xs us Q I rs ⟨S, vs, r, w, pr, eg, q⟩
  unfold gIntT at eg
  split at eg
  · rename_i a
    split at eg
    · rename_i n hn
      split at eg
      · rename_i hl
        cases eg
        obtain ⟨x, rfl, p1⟩ := prep1 pr
        have e := (show x = V.str a by simpa only [PRep, Rep] using p1)
        exact call_int_str pins s σ H _ us Q I rs ⟨a, n, by rw [e], hn, hl, q_val w q (by simp only [Rep])⟩
      · cases eg
    · cases eg
  · cases eg
/-- sign not in text -/
@[simp] def gNotInS : Val → Val → Option R
  | .str s, .str z => match s.cps.toList with
    | [c] => some (.val (.bl (!decide (c ∈ z.cps.toList))))
    | _ => none
  | _, _ => none
theorem os_notInS : OpS Z X (compareOp .NotIn) gNotInS := by
  intro pins s σ H x y v u Q I rx ry ⟨S, a, b, r, w, pa, pb, eg, q⟩
  unfold gNotInS at eg
  split at eg
  · rename_i s1 z1
    split at eg
    · rename_i c hc
      cases eg
      have ex : x = V.str s1 := by simpa only [PRep, Rep] using pa
      have ey : y = V.str z1 := by simpa only [PRep, Rep] using pb
      have es : s1 = ⟨#[c]⟩ := by
        obtain ⟨cps⟩ := s1
        have : cps = #[c] := by
          apply Array.toList_inj.mp
          rw [hc]
        rw [this]
      subst ex ey es
      refine op_notIn_sign pins s σ H _ _ v u Q I rx ry ⟨c, z1, rfl, rfl, ?_⟩
      exact q_val w q (by simp only [Rep])
    · cases eg
  · cases eg
/-- str(number), str(text) -/
def strOk (i : Int) : Bool := decide (i.natAbs.log2 < 1920)
@[simp] def gStr : List Val → Option R
  | [.int i] => if strOk i then some (.val (.str (toString i))) else none
  | [.str a] => some (.val (.str a))
  | _ => none
theorem cs_str : CallR X (.type "str") (rC X.K Z gStr) := by
  intro pins s σ H xs us Q I rs ⟨S, vs, r, w, pr, eg, q⟩
  unfold gStr at eg
  split at eg
  · rename_i i
    split at eg
    · rename_i hi
      cases eg
      obtain ⟨x, rfl, p1⟩ := prep1 pr
      have e := (show x = V.int i by simpa only [PRep, Rep] using p1)
      exact call_str_int pins s σ H _ us Q I rs ⟨i, by rw [e], of_decide_eq_true hi, q_val w q (by simp only [Rep])⟩
    · cases eg
  · rename_i a
    cases eg
    obtain ⟨x, rfl, p1⟩ := prep1 pr
    have e := (show x = V.str a by simpa only [PRep, Rep] using p1)
    exact SkE.call_str_str pins s σ H _ us Q I rs ⟨a, by rw [e], q_val w q (by simp only [Rep])⟩
  · cases eg
end
end Eg

/-! Texts: a text so many times. -/
namespace Eg
open PySem PySem.Spec PyProof.Rows L2
@[simp] def gMulS : Val → Val → Option R
  | .str a, .int k => if 1 ≤ a.length ∧ a.length ≤ 1000 ∧ 2 ≤ k ∧ k ≤ 1000 then some (.val (.str ⟨(List.replicate k.toNat a.cps.toList).flatten.toArray⟩)) else none
  | _, _ => none
theorem fold_rep (a : List Nat) : ∀ (m : Nat) (acc : Array Nat), ((List.replicate m a.toArray).foldl (· ++ ·) acc).toList = acc.toList ++ (List.replicate m a).flatten
  | 0, acc => by simp
  | m + 1, acc => by
    rw [List.replicate_succ, List.replicate_succ, List.foldl_cons, fold_rep a m]
    simp
section
variable {Z : Stc} {X : Cx} {W : WX}
theorem os_mulS : OpS Z X (binaryOp .Mult) gMulS := by
  intro pins s σ H x y v u Q I rx ry ⟨S, a, b, r, w, pa, pb, eg, q⟩
  unfold gMulS at eg
  split at eg
  · rename_i i k
    split at eg
    · rename_i hz
      cases eg
      obtain ⟨h1, h2, h3, h4⟩ := hz
      have ex : x = V.str i := by simpa only [PRep, Rep] using pa
      have ey : y = V.int k := by simpa only [PRep, Rep] using pb
      subst ex ey
      obtain ⟨t, rfl⟩ := rx
      obtain ⟨t2, rfl⟩ := ry
      obtain ⟨n, rfl⟩ := Int.eq_ofNat_of_zero_le (show 0 ≤ k by omega)
      have e : Txt.mul i (n : Int) = ⟨(List.replicate (n : Int).toNat i.cps.toList).flatten.toArray⟩ := by
        refine TL.ext_tl ?_
        unfold Txt.mul
        rw [if_neg (by omega), if_neg]
        · have := fold_rep i.cps.toList n #[]
          simpa [TL.tl] using this
        · simp only [Bool.or_eq_true, beq_iff_eq, not_or]
          omega
      have hm : i.length * n ≤ 1000 * 1000 := Nat.mul_le_mul h2 (by omega)
      refine SB.mul (n := (n : Int)) ⟨?_, fun _ _ => ?_, fun _ _ => ?_⟩ fun t' tk => ?_
      · simp only [Bool.or_eq_false_iff, decide_eq_false_iff_not]
        omega
      · have : (9223372036854775807 : Int) / 1000 ≤ (2 ^ 63 - 1) / (n : Int) := by
          have e2 : (2 ^ 63 - 1 : Int) = 9223372036854775807 := by decide
          rw [e2]
          exact Int.le_ediv_of_mul_le (by omega) (by omega)
        omega
      · show Builtin.Str.tooLong (i.length * (n : Int).toNat) = false
        unfold Builtin.Str.tooLong
        refine decide_eq_false ?_
        have := sizeLine_eq
        simp only [Int.toNat_natCast]
        omega
      · rw [e]
        exact ⟨.str _, H, I.tok _, ⟨_, rfl⟩, q_val w q (by simp only [Rep])⟩
    · cases eg
  · cases eg
end
end Eg

namespace Lw
open PySem L2 Eg
def topS (i : Nat) : Stmt := PySem.Challenge.pw_spanmap_k91_numbers_and_spans_read.main.body.getD i (.Pass ⟨0, 0, 0, 0⟩)
section
noncomputable def b_End_low_0 : DS := dRet (dC .non)
noncomputable def d_End_low : FD := dFun 1 (b_End_low_0)
noncomputable def b_End_behind_0 : DS := dRet (dC .non)
noncomputable def d_End_behind : FD := dFun 1 (b_End_behind_0)
noncomputable def b_Shut___init___0 : DS := dSetF [4] "place" (dV (dVarF 1)) (dVar 0)
noncomputable def d_Shut___init__ : FD := dFun 2 (b_Shut___init___0)
noncomputable def b_Shut_low_0 : DS := dRet (dFld [4] "place" (dVar 0))
noncomputable def d_Shut_low : FD := dFun 1 (b_Shut_low_0)
noncomputable def b_Shut_behind_0 : DS := dRet (dOp gAdd (dV (dFld [4] "place" (dVar 0))) (dV (dC (.int 1))))
noncomputable def d_Shut_behind : FD := dFun 1 (b_Shut_behind_0)
noncomputable def b_Open___init___0 : DS := dSetF [5] "place" (dV (dVarF 1)) (dVar 0)
noncomputable def d_Open___init__ : FD := dFun 2 (b_Open___init___0)
noncomputable def b_Open_low_0 : DS := dRet (dOp gAdd (dV (dFld [5] "place" (dVar 0))) (dV (dC (.int 1))))
noncomputable def d_Open_low : FD := dFun 1 (b_Open_low_0)
noncomputable def b_Open_behind_0 : DS := dRet (dFld [5] "place" (dVar 0))
noncomputable def d_Open_behind : FD := dFun 1 (b_Open_behind_0)
noncomputable def b_is_span_0 : DS := dRet (dOrV (dOp gIsN (dVar 0) (dV (dC .non))) (dOrV (dOp gIsN (dVar 1) (dV (dC .non))) (dOp gLt (dVar 0) (dVar 1))))
noncomputable def d_is_span : FD := dFun 2 (b_is_span_0)
noncomputable def b_read_number_0 : DS := dIf (dNot (dTB (dIsB "str" (dVar 0)))) (dRaise 2) (dNext)
noncomputable def b_read_number_1 : DS := dAsg (dVarF 0) (.nm 1)
noncomputable def b_read_number_2 : DS := dIf (dTB (dBMe "str" gStarts (dVar 0) [dV (dC (.str "-"))])) (dAsg (dSl (dVar 0) (dPart (dV (dC (.int 1)))) dNoPart) (.nm 1)) (dNext)
noncomputable def b_read_number_3 : DS := dIf (dOr (dTB (dOp gEq (dVar 1) (dV (dC (.str ""))))) (dOr (dTB (dOp gGt (dV (dCB gLen [dVar 1])) (dV (dC (.int 60))))) (dNot (dTB (dCB gAll [dV (dComp (dItemsT (dVar 1)) [2] (.nm 2) dYes (dV (dOp gInS (dVar 2) (dV (dC (.str "0123456789"))))))]))))) (dRaise 2) (dNext)
noncomputable def b_read_number_4 : DS := dIf (dAnd (dTB (dOp gEq (dV (dOp gIx (dVar 1) (dV (dC (.int 0))))) (dV (dC (.str "0"))))) (dTB (dOp gNe (dVar 0) (dV (dC (.str "0")))))) (dRaise 2) (dNext)
noncomputable def b_read_number_5 : DS := dRet (dCB gIntT [dVar 0])
noncomputable def d_read_number : FD := dFun 3 (dSeq b_read_number_0 (dSeq b_read_number_1 (dSeq b_read_number_2 (dSeq b_read_number_3 (dSeq b_read_number_4 (b_read_number_5))))))
noncomputable def b_show_span_0 : DS := dAsg (dVarF 0) (.tp [1, 2])
noncomputable def b_show_span_1 : DS := dAsg (dC (.str "(..")) (.nm 3)
noncomputable def b_show_span_2 : DS := dIf (dTB (dOp gNotN (dVar 1) (dV (dC .non)))) (dAsg (dOp gAdd (dV (dC (.str "["))) (dV (dCB gStr [dVar 1]))) (.nm 3)) (dNext)
noncomputable def b_show_span_3 : DS := dAsg (dC (.str "..)")) (.nm 4)
noncomputable def b_show_span_4 : DS := dIf (dTB (dOp gNotN (dVar 2) (dV (dC .non)))) (dAsg (dOp gAdd (dV (dCB gStr [dVar 2])) (dV (dC (.str ")")))) (.nm 4)) (dNext)
noncomputable def b_show_span_5 : DS := dRet (dOp gAdd (dV (dOp gAdd (dVar 3) (dV (dC (.str ","))))) (dVar 4))
noncomputable def d_show_span : FD := dFun 5 (dSeq b_show_span_0 (dSeq b_show_span_1 (dSeq b_show_span_2 (dSeq b_show_span_3 (dSeq b_show_span_4 (b_show_span_5))))))
noncomputable def b_l_cell_at_0 : DS := dIf (dTB (dOp gLt (dVar 1) (dV (dCB gLen [dVar 0])))) (dRet (dOp gIx (dVar 0) (dVar 1))) (dNext)
noncomputable def b_l_cell_at_1 : DS := dRet (dC (.int 0))
noncomputable def d_l_cell_at : FD := dFun 2 (dSeq b_l_cell_at_0 (b_l_cell_at_1))
noncomputable def b_l_number_0 : DS := dIf (dTB (dOp gEq (dV (dOp gMod (dVar 0) (dV (dC (.int 3))))) (dV (dC (.int 0))))) (dRet (dOp gSub (dV (dOp gMod (dV (dOp gMul (dV (dOp gDiv (dVar 0) (dV (dC (.int 3))))) (dV (dOp gAdd (dV (dOp gPow (dV (dC (.int 10))) (dV (dC (.int 41))))) (dV (dC (.int 9))))))) (dV (dOp gAdd (dV (dOp gMul (dV (dC (.int 2))) (dV (dOp gPow (dV (dC (.int 10))) (dV (dC (.int 59))))))) (dV (dC (.int 1))))))) (dV (dOp gPow (dV (dC (.int 10))) (dV (dC (.int 59))))))) (dNext)
noncomputable def b_l_number_1 : DS := dRet (dOp gSub (dV (dOp gMod (dV (dOp gDiv (dVar 0) (dV (dC (.int 3))))) (dV (dC (.int 41))))) (dV (dC (.int 20))))
noncomputable def d_l_number : FD := dFun 1 (dSeq b_l_number_0 (b_l_number_1))
noncomputable def b_l_word_0 : DS := dIf (dTB (dOp gEq (dV (dOp gMod (dVar 0) (dV (dC (.int 8))))) (dV (dC (.int 1))))) (dRet (dC (.str ".."))) (dNext)
noncomputable def b_l_word_1 : DS := dIf (dTB (dOp gEq (dV (dOp gMod (dVar 0) (dV (dC (.int 8))))) (dV (dC (.int 2))))) (dSeq (dAsg (dLst [dV (dC (.str "007")), dV (dC (.str "-0")), dV (dC (.str "+3")), dV (dC (.str " 3")), dV (dC (.str "3 ")), dV (dC (.str "")), dV (dC (.str "-")), dV (dOp gAdd (dV (dC (.str "1"))) (dV (dOp gMulS (dV (dC (.str "0"))) (dV (dC (.int 60)))))), dV (dOp gAdd (dV (dC (.str "-1"))) (dV (dOp gMulS (dV (dC (.str "0"))) (dV (dC (.int 59)))))), dV (dC (.str "00")), dV (dC (.str ".")), dV (dC (.str "...")), dV (dC (.str "-03")), dV (dC (.str "1_0"))]) (.nm 2)) (dRet (dOp gIx (dVar 2) (dV (dOp gMod (dV (dOp gDiv (dVar 0) (dV (dC (.int 8))))) (dV (dC (.int 14)))))))) (dNext)
noncomputable def b_l_word_2 : DS := dRet (dCB gStr [dVar 1])
noncomputable def d_l_word : FD := dFun 3 (dSeq b_l_word_0 (dSeq b_l_word_1 (b_l_word_2)))
noncomputable def b_l_spoilt_0 : DS := dAsg (dC (.str "[](),.-0123 =;+a/\n~")) (.nm 2)
noncomputable def b_l_spoilt_1 : DS := dAsg (dOp gIx (dVar 2) (dV (dOp gMod (dV (dOp gDiv (dVar 1) (dV (dC (.int 12))))) (dV (dCB gLen [dVar 2]))))) (.nm 3)
noncomputable def b_l_spoilt_2 : DS := dAsg (dOp gMod (dV (dOp gDiv (dVar 1) (dV (dC (.int 240))))) (dV (dOp gAdd (dV (dCB gLen [dVar 0])) (dV (dC (.int 1)))))) (.nm 4)
noncomputable def b_l_spoilt_3 : DS := dIf (dTB (dOp gEq (dV (dOp gMod (dVar 1) (dV (dC (.int 12))))) (dV (dC (.int 1))))) (dRet (dOp gAdd (dV (dOp gAdd (dV (dSl (dVar 0) dNoPart (dPart (dVar 4)))) (dVar 3))) (dV (dSl (dVar 0) (dPart (dVar 4)) dNoPart)))) (dNext)
noncomputable def b_l_spoilt_4 : DS := dIf (dTB (dOp gEq (dV (dOp gMod (dVar 1) (dV (dC (.int 12))))) (dV (dC (.int 2))))) (dRet (dOp gAdd (dV (dOp gAdd (dV (dSl (dVar 0) dNoPart (dPart (dVar 4)))) (dVar 3))) (dV (dSl (dVar 0) (dPart (dV (dOp gAdd (dVar 4) (dV (dC (.int 1)))))) dNoPart)))) (dNext)
noncomputable def b_l_spoilt_5 : DS := dIf (dOr (dTB (dOp gEq (dV (dOp gMod (dVar 1) (dV (dC (.int 12))))) (dV (dC (.int 3))))) (dTB (dOp gEq (dV (dOp gMod (dVar 1) (dV (dC (.int 12))))) (dV (dC (.int 4)))))) (dRet (dOp gAdd (dV (dSl (dVar 0) dNoPart (dPart (dVar 4)))) (dV (dSl (dVar 0) (dPart (dV (dOp gAdd (dVar 4) (dV (dC (.int 1)))))) dNoPart)))) (dNext)
noncomputable def b_l_spoilt_6 : DS := dRetV 0
noncomputable def d_l_spoilt : FD := dFun 5 (dSeq b_l_spoilt_0 (dSeq b_l_spoilt_1 (dSeq b_l_spoilt_2 (dSeq b_l_spoilt_3 (dSeq b_l_spoilt_4 (dSeq b_l_spoilt_5 (b_l_spoilt_6)))))))
noncomputable def w_l_read_0 : DS := dKl [2] (dIf (dTB (dOp gNotInS (dVar 2) (dV (dC (.str "0123456789"))))) (dRet (dC .non)) (dNext))
noncomputable def b_l_read_0 : DS := dAsg (dVarF 0) (.nm 1)
noncomputable def b_l_read_1 : DS := dIf (dTB (dOp gEq (dV (dSl (dVar 0) dNoPart (dPart (dV (dC (.int 1)))))) (dV (dC (.str "-"))))) (dAsg (dSl (dVar 0) (dPart (dV (dC (.int 1)))) dNoPart) (.nm 1)) (dNext)
noncomputable def b_l_read_2 : DS := dIf (dOr (dTB (dOp gEq (dVar 1) (dV (dC (.str ""))))) (dOr (dTB (dOp gGt (dV (dCB gLen [dVar 1])) (dV (dC (.int 60))))) (dAnd (dTB (dOp gEq (dV (dOp gIx (dVar 1) (dV (dC (.int 0))))) (dV (dC (.str "0"))))) (dTB (dOp gNe (dVar 0) (dV (dC (.str "0")))))))) (dRet (dC .non)) (dNext)
noncomputable def b_l_read_3 : DS := dPk [2] (dFor (dItemsT (dVar 1)) (.nm 2) w_l_read_0)
noncomputable def b_l_read_4 : DS := dRet (dCB gIntT [dVar 0])
noncomputable def d_l_read : FD := dFun 3 (dSeq b_l_read_0 (dSeq b_l_read_1 (dSeq b_l_read_2 (dSeq b_l_read_3 (b_l_read_4)))))
noncomputable def b_l_whole_0 : DS := dRet (dAndV (dIsB "int" (dVar 0)) (dNotV (dIsB "bool" (dVar 0))))
noncomputable def d_l_whole : FD := dFun 1 (b_l_whole_0)
noncomputable def b_l_shown_0 : DS := dAsg (dC (.str "(..")) (.nm 1)
noncomputable def b_l_shown_1 : DS := dIf (dTB (dOp gNotN (dV (dOp gIx (dVar 0) (dV (dC (.int 0))))) (dV (dC .non)))) (dAsg (dOp gAdd (dV (dC (.str "["))) (dV (dCB gStr [dV (dOp gIx (dVar 0) (dV (dC (.int 0))))]))) (.nm 1)) (dNext)
noncomputable def b_l_shown_2 : DS := dIf (dTB (dOp gIsN (dV (dOp gIx (dVar 0) (dV (dC (.int 1))))) (dV (dC .non)))) (dRet (dOp gAdd (dVar 1) (dV (dC (.str ",..)"))))) (dNext)
noncomputable def b_l_shown_3 : DS := dRet (dOp gAdd (dV (dOp gAdd (dV (dOp gAdd (dVar 1) (dV (dC (.str ","))))) (dV (dCB gStr [dV (dOp gIx (dVar 0) (dV (dC (.int 1))))])))) (dV (dC (.str ")"))))
noncomputable def d_l_shown : FD := dFun 2 (dSeq b_l_shown_0 (dSeq b_l_shown_1 (dSeq b_l_shown_2 (b_l_shown_3))))
noncomputable def b_span_0 : DS := dAsg (dMeth false [(4, d_Shut_low), (5, d_Open_low), (6, d_End_low)] "low" 1 (dVar 0) []) (.nm 2)
noncomputable def b_span_1 : DS := dAsg (dMeth false [(4, d_Shut_behind), (5, d_Open_behind), (6, d_End_behind)] "behind" 1 (dVar 1) []) (.nm 3)
noncomputable def b_span_2 : DS := dIf (dNot (dTB (dCall d_is_span 2 [dA1 (dV (dVarF 2)), dA1 (dV (dVarF 3))]))) (dRaise 1) (dNext)
noncomputable def b_span_3 : DS := dRet (dTup [dV (dVarF 2), dV (dVarF 3)])
noncomputable def d_span : FD := dFun 4 (dSeq b_span_0 (dSeq b_span_1 (dSeq b_span_2 (b_span_3))))
noncomputable def b_l_end_0 : DS := dIf (dAnd (dTB (dOp gEq (dVar 1) (dV (dC (.str ".."))))) (dTB (dOp gNe (dVar 0) (dVar 2)))) (dRet (dLst [dV (dC .non)])) (dNext)
noncomputable def b_l_end_1 : DS := dAsg (dCall d_l_read 1 [dA1 (dV (dVarF 1))]) (.nm 4)
noncomputable def b_l_end_2 : DS := dIf (dTB (dOp gIsN (dVar 4) (dV (dC .non)))) (dRet (dLst [])) (dNext)
noncomputable def b_l_end_3 : DS := dRet (dLst [dV (dOp gAdd (dVar 4) (dVar 3))])
noncomputable def d_l_end : FD := dFun 5 (dSeq b_l_end_0 (dSeq b_l_end_1 (dSeq b_l_end_2 (b_l_end_3))))
noncomputable def b_read_end_0 : DS := dIf (dAnd (dTB (dOp gEq (dVar 1) (dV (dC (.str ".."))))) (dTB (dOp gNe (dVar 0) (dVar 2)))) (dRet (dMake0 6)) (dNext)
noncomputable def b_read_end_1 : DS := dAsg (dCall d_read_number 1 [dA1 (dV (dVarF 1))]) (.nm 3)
noncomputable def b_read_end_2 : DS := dIf (dTB (dOp gEq (dVar 0) (dVar 2))) (dRet (dMake false 4 d_Shut___init__ 2 [] [dA1 (dV (dVarF 3))])) (dNext)
noncomputable def b_read_end_3 : DS := dRet (dMake false 5 d_Open___init__ 2 [] [dA1 (dV (dVarF 3))])
noncomputable def d_read_end : FD := dFun 4 (dSeq b_read_end_0 (dSeq b_read_end_1 (dSeq b_read_end_2 (b_read_end_3))))
noncomputable def b_l_due_0 : DS := dIf (dOr (dTB (dOp gLt (dV (dCB gLen [dVar 0])) (dV (dC (.int 2))))) (dOr (dTB (dOp gNotIn (dV (dOp gIx (dVar 0) (dV (dC (.int 0))))) (dV (dLst [dV (dC (.str "[")), dV (dC (.str "("))])))) (dOr (dTB (dOp gNotIn (dV (dOp gIx (dVar 0) (dV (dUn gNeg (dV (dC (.int 1))))))) (dV (dLst [dV (dC (.str "]")), dV (dC (.str ")"))])))) (dTB (dOp gNotInS (dV (dC (.str ","))) (dVar 0)))))) (dRet (dC (.str "NoText"))) (dNext)
noncomputable def b_l_due_1 : DS := dAsg (dBMe "str" gPart (dV (dSl (dVar 0) (dPart (dV (dC (.int 1)))) (dPart (dV (dUn gNeg (dV (dC (.int 1)))))))) [dV (dC (.str ","))]) (.tp [1, 2, 3])
noncomputable def b_l_due_2 : DS := dAsg (dCall d_l_end 4 [dA1 (dV (dOp gIx (dVar 0) (dV (dC (.int 0))))), dA1 (dV (dVarF 1)), dA1 (dV (dC (.str "["))), dA1 (dV (dCB gInt [dV (dOp gEq (dV (dOp gIx (dVar 0) (dV (dC (.int 0))))) (dV (dC (.str "("))))]))]) (.nm 4)
noncomputable def b_l_due_3 : DS := dAsg (dCall d_l_end 4 [dA1 (dV (dOp gIx (dVar 0) (dV (dUn gNeg (dV (dC (.int 1))))))), dA1 (dV (dVarF 3)), dA1 (dV (dC (.str "]"))), dA1 (dV (dCB gInt [dV (dOp gEq (dV (dOp gIx (dVar 0) (dV (dUn gNeg (dV (dC (.int 1))))))) (dV (dC (.str "]"))))]))]) (.nm 5)
noncomputable def b_l_due_4 : DS := dIf (dOr (dTB (dOp gEq (dVar 4) (dV (dLst [])))) (dTB (dOp gEq (dVar 5) (dV (dLst []))))) (dRet (dC (.str "NoText"))) (dNext)
noncomputable def b_l_due_5 : DS := dIf (dAnd (dTB (dOp gNotN (dV (dOp gIx (dVar 4) (dV (dC (.int 0))))) (dV (dC .non)))) (dAnd (dTB (dOp gNotN (dV (dOp gIx (dVar 5) (dV (dC (.int 0))))) (dV (dC .non)))) (dTB (dOp gGe (dV (dOp gIx (dVar 4) (dV (dC (.int 0))))) (dV (dOp gIx (dVar 5) (dV (dC (.int 0))))))))) (dRet (dC (.str "Empty"))) (dNext)
noncomputable def b_l_due_6 : DS := dRet (dTup [dV (dOp gIx (dVar 4) (dV (dC (.int 0)))), dV (dOp gIx (dVar 5) (dV (dC (.int 0))))])
noncomputable def d_l_due : FD := dFun 6 (dSeq b_l_due_0 (dSeq b_l_due_1 (dSeq b_l_due_2 (dSeq b_l_due_3 (dSeq b_l_due_4 (dSeq b_l_due_5 (b_l_due_6)))))))
noncomputable def b_read_span_0 : DS := dIf (dOr (dNot (dTB (dIsB "str" (dVar 0)))) (dTB (dOp gLt (dV (dCB gLen [dVar 0])) (dV (dC (.int 2)))))) (dRaise 2) (dNext)
noncomputable def b_read_span_1 : DS := dIf (dOr (dTB (dOp gNotIn (dV (dOp gIx (dVar 0) (dV (dC (.int 0))))) (dV (dTup [dV (dC (.str "[")), dV (dC (.str "("))])))) (dTB (dOp gNotIn (dV (dOp gIx (dVar 0) (dV (dUn gNeg (dV (dC (.int 1))))))) (dV (dTup [dV (dC (.str "]")), dV (dC (.str ")"))]))))) (dRaise 2) (dNext)
noncomputable def b_read_span_2 : DS := dAsg (dBMe "str" gPart (dV (dSl (dVar 0) (dPart (dV (dC (.int 1)))) (dPart (dV (dUn gNeg (dV (dC (.int 1)))))))) [dV (dC (.str ","))]) (.tp [1, 2, 3])
noncomputable def b_read_span_3 : DS := dIf (dTB (dOp gEq (dVar 2) (dV (dC (.str ""))))) (dRaise 2) (dNext)
noncomputable def b_read_span_4 : DS := dAsg (dCall d_read_end 3 [dA1 (dV (dOp gIx (dVar 0) (dV (dC (.int 0))))), dA1 (dV (dVarF 1)), dA1 (dV (dC (.str "[")))]) (.nm 4)
noncomputable def b_read_span_5 : DS := dAsg (dCall d_read_end 3 [dA1 (dV (dOp gIx (dVar 0) (dV (dUn gNeg (dV (dC (.int 1))))))), dA1 (dV (dVarF 3)), dA1 (dV (dC (.str "]")))]) (.nm 5)
noncomputable def b_read_span_6 : DS := dRet (dCall d_span 2 [dA1 (dV (dVarF 4)), dA1 (dV (dVarF 5))])
noncomputable def d_read_span : FD := dFun 6 (dSeq b_read_span_0 (dSeq b_read_span_1 (dSeq b_read_span_2 (dSeq b_read_span_3 (dSeq b_read_span_4 (dSeq b_read_span_5 (b_read_span_6)))))))
noncomputable def b_l_told_0 : DS := dAsg (dLst []) (.nm 2)
noncomputable def b_l_told_1 : DS := dAsg (dC .non) (.nm 3)
noncomputable def b_l_told_2 : DS := dTry [1, 2] 3 0 4 (dIf (dTB (dVarF 1)) (dAsg (dCall d_read_span 1 [dA1 (dV (dVarF 0))]) (.nm 3)) (dAsg (dCall d_read_number 1 [dA1 (dV (dVarF 0))]) (.nm 3))) (fun c => dAsg (dLst [dV (dIsE 3 c 4 [some 2]), dV (dIsE 3 c 4 [some 1]), dV (dIsE 3 c 4 [none])]) (.nm 2))
noncomputable def b_l_told_3 : DS := dIf (dTB (dOp gEq (dVar 2) (dV (dLst [dV (dC (.bl true)), dV (dC (.bl false)), dV (dC (.bl true))])))) (dRet (dC (.str "NoText"))) (dNext)
noncomputable def b_l_told_4 : DS := dIf (dTB (dOp gEq (dVar 2) (dV (dLst [dV (dC (.bl false)), dV (dC (.bl true)), dV (dC (.bl true))])))) (dRet (dC (.str "Empty"))) (dNext)
noncomputable def b_l_told_5 : DS := dRetV 3
noncomputable def d_l_told : FD := dFun 5 (dSeq b_l_told_0 (dSeq b_l_told_1 (dSeq b_l_told_2 (dSeq b_l_told_3 (dSeq b_l_told_4 (b_l_told_5))))))
noncomputable def w_law_0 : DS := dKl [4, 5, 6] (dSeq (dAsg (dCall d_l_read 1 [dA1 (dV (dVarF 4))]) (.nm 5)) (dSeq (dAsg (dCall d_l_told 2 [dA1 (dV (dVarF 4)), dA1 (dV (dC (.bl false)))]) (.nm 6)) (dIf (dOr (dAnd (dTB (dOp gIsN (dVar 5) (dV (dC .non)))) (dTB (dOp gNe (dVar 6) (dV (dC (.str "NoText")))))) (dAnd (dTB (dOp gNotN (dVar 5) (dV (dC .non)))) (dOr (dNot (dTB (dCall d_l_whole 1 [dA1 (dV (dVarF 6))]))) (dTB (dOp gNe (dVar 6) (dVar 5)))))) (dRet (dC (.bl false))) (dNext))))
noncomputable def w_law_1 : DS := dKl [9] (dIf (dOr (dAnd (dTB (dOp gIsN (dV (dOp gIx (dVar 5) (dVar 9))) (dV (dC .non)))) (dTB (dOp gNotN (dV (dOp gIx (dVar 6) (dVar 9))) (dV (dC .non))))) (dAnd (dTB (dOp gNotN (dV (dOp gIx (dVar 5) (dVar 9))) (dV (dC .non)))) (dNot (dTB (dCall d_l_whole 1 [dA1 (dV (dOp gIx (dVar 6) (dVar 9)))]))))) (dRet (dC (.bl false))) (dNext))
noncomputable def b_law_0 : DS := dAsg (dCall d_l_number 1 [dA1 (dV (dCall d_l_cell_at 2 [dA1 (dV (dVarF 0)), dA1 (dV (dC (.int 0)))]))]) (.nm 1)
noncomputable def b_law_1 : DS := dAsg (dCall d_l_number 1 [dA1 (dV (dCall d_l_cell_at 2 [dA1 (dV (dVarF 0)), dA1 (dV (dC (.int 1)))]))]) (.nm 2)
noncomputable def b_law_2 : DS := dIf (dTB (dOp gEq (dV (dOp gMod (dV (dCall d_l_cell_at 2 [dA1 (dV (dVarF 0)), dA1 (dV (dC (.int 2)))])) (dV (dC (.int 2))))) (dV (dC (.int 0))))) (dAsg (dOp gSub (dV (dOp gAdd (dVar 1) (dV (dOp gMod (dV (dOp gDiv (dV (dCall d_l_cell_at 2 [dA1 (dV (dVarF 0)), dA1 (dV (dC (.int 2)))])) (dV (dC (.int 2))))) (dV (dC (.int 19))))))) (dV (dC (.int 9)))) (.nm 2)) (dNext)
noncomputable def b_law_3 : DS := dAsg (dLst [dV (dCall d_l_word 2 [dA1 (dV (dCall d_l_cell_at 2 [dA1 (dV (dVarF 0)), dA1 (dV (dC (.int 3)))])), dA1 (dV (dVarF 1))]), dV (dCall d_l_word 2 [dA1 (dV (dCall d_l_cell_at 2 [dA1 (dV (dVarF 0)), dA1 (dV (dC (.int 4)))])), dA1 (dV (dVarF 2))])]) (.nm 3)
noncomputable def b_law_4 : DS := dLock 3 (dPk [4, 5, 6] (dFor (dItemsV 3) (.nm 4) w_law_0))
noncomputable def b_law_5 : DS := dAsg (dCall d_l_cell_at 2 [dA1 (dV (dVarF 0)), dA1 (dV (dC (.int 5)))]) (.nm 7)
noncomputable def b_law_6 : DS := dAsg (dOp gAdd (dV (dOp gAdd (dV (dOp gAdd (dV (dOp gAdd (dV (dOp gIx (dV (dLst [dV (dC (.str "[")), dV (dC (.str "("))])) (dV (dOp gMod (dVar 7) (dV (dC (.int 2))))))) (dV (dOp gIx (dVar 3) (dV (dC (.int 0))))))) (dV (dC (.str ","))))) (dV (dOp gIx (dVar 3) (dV (dC (.int 1))))))) (dV (dOp gIx (dV (dLst [dV (dC (.str "]")), dV (dC (.str ")"))])) (dV (dOp gMod (dV (dOp gDiv (dVar 7) (dV (dC (.int 2))))) (dV (dC (.int 2)))))))) (.nm 8)
noncomputable def b_law_7 : DS := dAsg (dCall d_l_spoilt 2 [dA1 (dV (dVarF 8)), dA1 (dV (dCall d_l_cell_at 2 [dA1 (dV (dVarF 0)), dA1 (dV (dC (.int 6)))]))]) (.nm 8)
noncomputable def b_law_8 : DS := dIf (dTB (dOp gEq (dV (dOp gMod (dV (dOp gDiv (dVar 7) (dV (dC (.int 4))))) (dV (dC (.int 20))))) (dV (dC (.int 7))))) (dRet (dOp gEq (dV (dCall d_l_told 2 [dA1 (dV (dOp gIx (dV (dLst [dV (dC .non), dV (dC (.int 7)), dV (dLst [dV (dC (.str "[1,2)"))])])) (dV (dOp gMod (dV (dOp gDiv (dVar 7) (dV (dC (.int 80))))) (dV (dC (.int 3))))))), dA1 (dV (dOp gEq (dV (dOp gMod (dV (dOp gDiv (dVar 7) (dV (dC (.int 240))))) (dV (dC (.int 2))))) (dV (dC (.int 0)))))])) (dV (dC (.str "NoText"))))) (dNext)
noncomputable def b_law_9 : DS := dAsg (dCall d_l_due 1 [dA1 (dV (dVarF 8))]) (.nm 5)
noncomputable def b_law_10 : DS := dAsg (dCall d_l_told 2 [dA1 (dV (dVarF 8)), dA1 (dV (dC (.bl true)))]) (.nm 6)
noncomputable def b_law_11 : DS := dIf (dOr (dTB (dIsB "str" (dVar 5))) (dTB (dIsB "str" (dVar 6)))) (dRet (dAndV (dIsB "str" (dVar 5)) (dAndV (dIsB "str" (dVar 6)) (dOp gEq (dVar 6) (dVar 5))))) (dNext)
noncomputable def b_law_12 : DS := dIf (dOr (dNot (dTB (dIsB "tuple" (dVar 6)))) (dTB (dOp gNe (dV (dCB gLen [dVar 6])) (dV (dC (.int 2)))))) (dRet (dC (.bl false))) (dNext)
noncomputable def b_law_13 : DS := dPk [9] (dFor (dRng [dV (dC (.int 2))]) (.nm 9) w_law_1)
noncomputable def b_law_14 : DS := dAsg (dCall d_show_span 1 [dA1 (dV (dVarF 6))]) (.nm 10)
noncomputable def b_law_15 : DS := dIf (dOr (dTB (dOp gNe (dVar 6) (dVar 5))) (dOr (dNot (dTB (dIsB "str" (dVar 10)))) (dTB (dOp gNe (dVar 10) (dV (dCall d_l_shown 1 [dA1 (dV (dVarF 5))])))))) (dRet (dC (.bl false))) (dNext)
noncomputable def b_law_16 : DS := dLock 3 (dIf (dTB (dOp gGt (dV (dCB gMax [dV (dComp (dItemsV 3) [4] (.nm 4) dYes (dV (dCB gLen [dVar 4])))])) (dV (dC (.int 59))))) (dRet (dC (.bl true))) (dNext))
noncomputable def b_law_17 : DS := dRet (dOp gEq (dV (dCall d_read_span 1 [dA1 (dV (dVarF 10))])) (dVar 5))
noncomputable def d_law : FD := dFun 11 (dSeq b_law_0 (dSeq b_law_1 (dSeq b_law_2 (dSeq b_law_3 (dSeq b_law_4 (dSeq b_law_5 (dSeq b_law_6 (dSeq b_law_7 (dSeq b_law_8 (dSeq b_law_9 (dSeq b_law_10 (dSeq b_law_11 (dSeq b_law_12 (dSeq b_law_13 (dSeq b_law_14 (dSeq b_law_15 (dSeq b_law_16 (b_law_17))))))))))))))))))
end
end Lw
namespace Lw
open PySem L2 Eg
/-! texts by their signs -/
/-- the text of these signs -/
def tx (l : List Nat) : Str := ⟨l.toArray⟩
@[simp] theorem tx_cps (l : List Nat) : (tx l).cps.toList = l := rfl
@[simp] theorem tx_len (l : List Nat) : (tx l).length = l.length := SX.S_len l
theorem tx_of (z : Str) : z = tx z.cps.toList := (SX.S_tl z).symm
@[simp] theorem tx_app (a b : List Nat) : tx a ++ tx b = tx (a ++ b) := SX.S_cat a b
theorem tx_inj {a b : List Nat} (h : tx a = tx b) : a = b := SX.S_inj h
@[simp] theorem tx_beq (a b : List Nat) : (tx a == tx b) = decide (a = b) := SX.S_beq_eq
@[simp] theorem tx_one (c : Nat) : (⟨#[c]⟩ : Str) = tx [c] := rfl
@[simp] theorem tx_eq (a b : List Nat) : (tx a = tx b) = (a = b) := propext ⟨tx_inj, fun h => by rw [h]⟩
@[simp] theorem eqv_str (a b : Str) : eqv (.str a) (.str b) = decide (a = b) := by simp [eqv]
@[simp] theorem gEq_str (a b : Str) : gEq (.str a) (.str b) = some (.val (.bl (decide (a = b)))) := by simp [gEq, dat, eqv]
@[simp] theorem gNe_str (a b : Str) : gNe (.str a) (.str b) = some (.val (.bl (!decide (a = b)))) := by simp [gNe, dat, eqv]
theorem tx_cut (l : List Nat) (lo hi : Option Int) : cutS (tx l) lo hi = tx ((l.drop (HT.sIx l.length 0 lo)).take (HT.sIx l.length l.length hi - HT.sIx l.length 0 lo)) := by
  refine TL.ext_tl ?_
  show (cutS (tx l) lo hi).cps.toList = _
  unfold cutS
  simp
@[simp] theorem tx_to1 (l : List Nat) : cutS (tx l) none (some 1) = tx (l.take 1) := by
  rw [tx_cut]
  congr 1
  cases l with
  | nil => simp [HT.sIx]
  | cons a l => simp [HT.sIx, show (1 : Int).toNat = 1 from rfl]
@[simp] theorem tx_from1 (l : List Nat) : cutS (tx l) (some 1) none = tx (l.drop 1) := by
  rw [tx_cut]
  congr 1
  cases l with
  | nil => simp [HT.sIx]
  | cons a l => simp [HT.sIx, show (1 : Int).toNat = 1 from rfl]
theorem tx_to (l : List Nat) (k : Nat) : cutS (tx l) none (some (k : Int)) = tx (l.take k) := by
  rw [tx_cut]
  congr 1
  simp only [HT.sIx, List.drop_zero, Nat.sub_zero, if_neg (show ¬ (k : Int) < 0 by omega), Int.toNat_natCast]
  rw [List.take_eq_take_iff]
  omega
theorem tx_from (l : List Nat) (k : Nat) : cutS (tx l) (some (k : Int)) none = tx (l.drop k) := by
  rw [tx_cut]
  congr 1
  simp only [HT.sIx, if_neg (show ¬ (k : Int) < 0 by omega), Int.toNat_natCast]
  by_cases h : k ≤ l.length
  · rw [Nat.min_eq_left h, ← List.length_drop, List.take_length]
  · rw [Nat.min_eq_right (by omega), Nat.sub_self, List.take_zero, List.drop_eq_nil_of_le (by omega)]
@[simp] theorem tx_mid (l : List Nat) : cutS (tx l) (some 1) (some (-1)) = tx ((l.drop 1).dropLast) := by
  rw [tx_cut]
  congr 1
  rw [List.dropLast_eq_take]
  simp only [HT.sIx, List.length_drop]
  cases l with
  | nil => simp
  | cons a l =>
    have e1 : (if (1 : Int) < 0 then ((1 : Int) + ((a :: l).length : Nat)).toNat else min (1 : Int).toNat (a :: l).length) = 1 := by
      rw [if_neg (by decide)]
      simp [show (1 : Int).toNat = 1 from rfl]
    have e2 : (if (-1 : Int) < 0 then ((-1 : Int) + ((a :: l).length : Nat)).toNat else min (-1 : Int).toNat (a :: l).length) = l.length := by
      rw [if_pos (by decide)]
      simp only [List.length_cons]
      omega
    first
      | rw [e1, e2]; simp
      | (simp only [List.length_cons] at *; simp; omega)
/-- a text begins with one sign -/
@[simp] theorem tx_starts (l : List Nat) (c : Nat) : Txt.startswith (tx l) (tx [c]) = decide (l.head? = some c) := by
  have e := StrLaws.subAt_eq (tx l) (tx [c]) 0
  unfold Txt.startswith
  simp only [tx_len, List.length_cons, List.length_nil]
  cases l with
  | nil => simp
  | cons a l =>
    have e1 : ((tx (a :: l)).cps.toList.drop 0).take (tx [c]).length = [a] := by simp
    have h : Builtin.Str.subAt (tx (a :: l)) (tx [c]) 0 = ([a] == [c]) := by
      rw [e, e1]; rfl
    rw [h]
    by_cases q : a = c <;> simp [q]
/-- cut at the first of one sign -/
def cut1 (c : Nat) : List Nat → Option (List Nat × List Nat)
  | [] => none
  | a :: l => if a = c then some ([], l) else (cut1 c l).map fun p => (a :: p.1, p.2)
theorem cut1_none {c : Nat} : ∀ {l : List Nat}, c ∉ l → cut1 c l = none
  | [], _ => rfl
  | a :: l, h => by
    have h1 : ¬ a = c := fun e => h (e ▸ List.mem_cons_self ..)
    simp only [cut1, if_neg h1, cut1_none (fun m => h (List.mem_cons_of_mem _ m))]
    rfl
theorem cut1_app {c : Nat} : ∀ {p q : List Nat}, c ∉ p → cut1 c (p ++ c :: q) = some (p, q)
  | [], q, _ => by simp [cut1]
  | a :: p, q, h => by
    have h1 : ¬ a = c := fun e => h (e ▸ List.mem_cons_self ..)
    simp only [List.cons_append, cut1, if_neg h1, cut1_app (p := p) (q := q) (fun m => h (List.mem_cons_of_mem _ m))]
    rfl
theorem cut1_ex (c : Nat) (l : List Nat) : (c ∉ l ∧ cut1 c l = none) ∨ ∃ p q, l = p ++ c :: q ∧ c ∉ p ∧ cut1 c l = some (p, q) := by
  by_cases h : c ∈ l
  · obtain ⟨p, q, e, hp⟩ := List.eq_append_cons_of_mem h
    exact .inr ⟨p, q, e, hp, by rw [e, cut1_app hp]⟩
  · exact .inl ⟨h, cut1_none h⟩
theorem tx_part_none {c : Nat} {l : List Nat} (h : c ∉ l) : Txt.partition (tx l) (tx [c]) = (tx l, tx [], tx []) :=
  SX.partition_none (a := l) (b := [c]) (by simp) (TL.par_none1 h)
theorem tx_part {c : Nat} {p q : List Nat} (h : c ∉ p) : Txt.partition (tx (p ++ c :: q)) (tx [c]) = (tx p, tx [c], tx q) :=
  SX.partition_some (a := p ++ c :: q) (b := [c]) (by simp) (by simpa using TL.par_part1 (s := c) (S := []) (p := p) (rest := q) (acc := []) h)
/-! the texts of whole numbers -/
/-- the signs of a whole number -/
def numI (i : Int) : List Nat := if i < 0 then 45 :: TL.numL i.natAbs else TL.numL i.natAbs
theorem tx_num (i : Int) : Str.ofString (toString i) = tx (numI i) := by
  unfold numI
  by_cases h : i < 0
  · obtain ⟨n, rfl⟩ : ∃ n : Nat, i = Int.negSucc n := ⟨(-i - 1).toNat, by omega⟩
    rw [if_pos h]
    refine TL.ext_tl ?_
    show TL.tl (Str.ofString (toString (Int.negSucc n))) = 45 :: TL.numL (n + 1)
    have e : toString (Int.negSucc n) = "-" ++ toString (n + 1) := rfl
    have e2 := TL.tl_num (n + 1)
    have e3 : toString (((n + 1 : Nat) : Nat) : Int) = toString (n + 1) := rfl
    rw [e3, TL.tl_ofString] at e2
    rw [e, TL.tl_ofString]
    simp [String.toList_append] at e2 ⊢
    exact e2
  · obtain ⟨n, rfl⟩ := Int.eq_ofNat_of_zero_le (show 0 ≤ i by omega)
    rw [if_neg h, SX.num_S]
    rfl
def dig (c : Nat) : Bool := decide (48 ≤ c ∧ c < 58)
theorem dig_t {c : Nat} (h : 48 ≤ c ∧ c < 58) : dig c = true := decide_eq_true h
theorem dig_f {c : Nat} (h : ¬ (48 ≤ c ∧ c < 58)) : dig c = false := decide_eq_false h
theorem numL_dig (n : Nat) : (TL.numL n).all dig = true := List.all_eq_true.mpr fun c hc => dig_t (by have := TL.numL_digits n c hc; omega)
/-- the figures of a word -/
def figL (l : List Nat) : List Nat := if l.head? = some 45 then l.drop 1 else l
/-- whether a word is a whole number's -/
def numB (l : List Nat) : Bool := decide (figL l ≠ []) && decide ((figL l).length ≤ 60) && (figL l).all dig && !(decide ((figL l).head? = some 48) && decide (l ≠ [48]))
def valL (l : List Nat) : Int := if l.head? = some 45 then -(NumText.digitsVal (l.drop 1) : Int) else (NumText.digitsVal l : Int)
/-- the whole number that a word writes -/
def rdN (l : List Nat) : Option Int := if numB l = true then some (valL l) else none
theorem all_digits {l : List Nat} (h : l.all dig = true) : NumText.AllDigits l := fun c hc => by
  have := of_decide_eq_true (List.all_eq_true.mp h c hc)
  omega
theorem int_text {l : List Nat} (h1 : figL l ≠ []) (h2 : (figL l).length ≤ 60) (h3 : (figL l).all dig = true) : intText? (tx l) = some (valL l) := by
  unfold figL at *
  unfold valL
  by_cases h : l.head? = some 45
  · rw [if_pos h] at *
    obtain ⟨r, rfl⟩ : ∃ r, l = 45 :: r := by cases l with | nil => cases h | cons a l => exact ⟨l, by simp at h; rw [h]⟩
    exact intText_neg (x := tx (45 :: r)) (cs := r) rfl (all_digits h3) h1 (by simp at h2 ⊢; omega)
  · rw [if_neg h] at *
    exact intText_digits (x := tx l) (all_digits h3) h1 (by simp at h2 ⊢; omega)
theorem numL_head {n : Nat} (h : 0 < n) : (TL.numL n).head? ≠ some 48 := by
  induction n using Nat.strongRecOn with
  | _ n ih =>
    by_cases h1 : n < 10
    · rw [TL.numL_lt h1]
      simp
      omega
    · rw [TL.numL_step (by omega)]
      have := ih (n / 10) (by omega) (by omega)
      cases e : TL.numL (n / 10) with
      | nil => exact absurd e (TL.numL_ne _)
      | cons a l =>
        rw [e] at this
        simpa using this
theorem numI_fig (i : Int) : figL (numI i) = TL.numL i.natAbs := by
  unfold figL numI
  by_cases h : i < 0
  · rw [if_pos h]; rfl
  · rw [if_neg h, if_neg]
    intro e
    have : (45 : Nat) ∈ TL.numL i.natAbs := by
      cases e2 : TL.numL i.natAbs with
      | nil => rw [e2] at e; cases e
      | cons a l => rw [e2] at e; simp at e; rw [e]; exact List.mem_cons_self ..
    exact TL.numL_free (Or.inl (by decide)) this
theorem numL_60 {n : Nat} (h : n < 10 ^ 60) : (TL.numL n).length ≤ 60 := TL.numL_len (by decide) h
theorem numI_len {i : Int} (h : i.natAbs < 10 ^ 60) : (numI i).length ≤ 61 := by
  have := numL_60 h
  unfold numI
  split <;> simp <;> omega
theorem numI_val (i : Int) : valL (numI i) = i := by
  unfold valL numI
  by_cases h : i < 0
  · rw [if_pos h]
    simp [TL.numL_val]
    omega
  · rw [if_neg h, if_neg, TL.numL_val]
    · omega
    · intro e
      have q := numI_fig i
      unfold figL numI at q
      rw [if_neg h, if_pos e] at q
      have := congrArg List.length q
      have n0 := TL.numL_ne i.natAbs
      cases e2 : TL.numL i.natAbs with
      | nil => exact n0 e2
      | cons a l => rw [e2] at this; simp at this
theorem rdN_num {i : Int} (h : i.natAbs < 10 ^ 60) : rdN (numI i) = some i := by
  have e1 := numI_fig i
  have h1 := numL_60 h
  have hd := numL_dig i.natAbs
  have hne := TL.numL_ne i.natAbs
  have hb : numB (numI i) = true := by
    unfold numB
    rw [e1, hd]
    by_cases z : i = 0
    · subst z
      decide +kernel
    · have := numL_head (n := i.natAbs) (by omega)
      simp [hne, h1, this]
  unfold rdN
  rw [if_pos hb, numI_val]
theorem numI_free {i : Int} {c : Nat} (h : c < 45 ∨ c = 46 ∨ c = 47 ∨ 57 < c) : c ∉ numI i := by
  have := TL.numL_free (n := i.natAbs) (s := c) (by omega)
  unfold numI
  split
  · simp only [List.mem_cons, not_or]
    exact ⟨by omega, this⟩
  · exact this
/-! read_number: the word's whole number, or NoText -/
abbrev FG : Str := "0123456789"
theorem fg_mem (c : Nat) : c ∈ FG.cps.toList ↔ 48 ≤ c ∧ c < 58 := by
  have e : FG.cps.toList = (List.range 10).map (48 + ·) := by decide +kernel
  rw [e]
  simp only [List.mem_map, List.mem_range]
  constructor
  · rintro ⟨a, h, rfl⟩; omega
  · intro h; exact ⟨c - 48, by omega, by omega⟩
theorem fg_in (c : Nat) : gInS (.str (tx [c])) (.str FG) = some (.val (.bl (dig c))) := by
  have := fg_mem c
  by_cases h : 48 ≤ c ∧ c < 58
  · have m := this.mpr h
    simp only [gInS, tx_cps, dig_t h, m, decide_true]
  · have m : ¬ c ∈ FG.cps.toList := fun q => h (this.mp q)
    simp only [gInS, tx_cps, dig_f h, m, decide_false]
theorem fg_notin (c : Nat) : gNotInS (.str (tx [c])) (.str FG) = some (.val (.bl (!dig c))) := by
  have := fg_mem c
  by_cases h : 48 ≤ c ∧ c < 58
  · have m := this.mpr h
    simp only [gNotInS, tx_cps, dig_t h, m, decide_true]
  · have m : ¬ c ∈ FG.cps.toList := fun q => h (this.mp q)
    simp only [gNotInS, tx_cps, dig_f h, m, decide_false]
@[simp] theorem lit_nil : Str.ofString "" = tx [] := by decide +kernel
@[simp] theorem lit_minus : Str.ofString "-" = tx [45] := by decide +kernel
@[simp] theorem lit_zero : Str.ofString "0" = tx [48] := by decide +kernel
theorem is_str (z : Str) : isB "str" (.str z) = some true := by show kitB "str" "str" = _; decide +kernel
theorem signs_tx (l : List Nat) : signsL (tx l) = l.map fun c => Val.str (tx [c]) := rfl
def outN (o : Option Int) (st : Store) : Out R := match o with
  | some n => .ok (.val (.int n)) st
  | none => .exc 2 [] st
theorem size_600 {n : Nat} (h : n ≤ 600) : n ≤ sizeLine := by rw [sizeLine_eq]; omega
theorem figs_all (f : List Nat) (s0 : Option Eg.Slot) (st : Store) (h : f.length ≤ 600) :
    dCompGo (.nm 2) dYes (dV (dOp gInS (dVar 2) (dV (dC (.str FG))))) [s0, some (.val (.str (tx f))), none] (f.map fun c => Val.str (tx [c])) [] st = .ok (.own (f.map fun c => Val.bl (dig c))) st ∧
    gAll [.lst (f.map fun c => Val.bl (dig c))] = some (.val (.bl (f.all dig))) := by
  have c := comp_mapA (T := .nm 2) (d := dV (dOp gInS (dVar 2) (dV (dC (.str FG))))) (st := st) (env := [s0, some (.val (.str (tx f))), none]) (fun c => Val.str (tx [c])) (fun c => Val.bl (dig c)) f [] (fun c _ => ⟨_, rfl, by
    have := fg_in c
    simp [this, -gInS]⟩) (by simp; have := size_600 h; omega)
  rw [List.nil_append] at c
  have al : gAll [.lst (f.map fun c => Val.bl (dig c))] = some (.val (.bl (f.all dig))) := by
    have b := blsOf_map (f.map dig)
    rw [List.map_map] at b
    have b' : blsOf (f.map fun c => Val.bl (dig c)) = some (f.map dig) := b
    simp only [gAll, lstOf, b', List.all_map]
    rfl
  exact ⟨c, al⟩
theorem read_number_eq (l : List Nat) (hl : l.length ≤ 600) (st : Store) : d_read_number [.val (.str (tx l))] st = outN (rdN l) st := by
  have hs := size_600 hl
  have t0 : b_read_number_0 [some (.val (.str (tx l))), none, none] st = .nx [some (.val (.str (tx l))), none, none] st := by
    simp +decide [b_read_number_0, is_str]
  have t1 : b_read_number_1 [some (.val (.str (tx l))), none, none] st = .nx [some (.val (.str (tx l))), some (.val (.str (tx l))), none] st := by
    simp +decide [b_read_number_1]
  have t2 : b_read_number_2 [some (.val (.str (tx l))), some (.val (.str (tx l))), none] st = .nx [some (.val (.str (tx l))), some (.val (.str (tx (figL l)))), none] st := by
    unfold figL
    by_cases h : l.head? = some 45 <;> simp +decide [b_read_number_2, hs, h]
  have hf : (figL l).length ≤ l.length := by unfold figL; split <;> simp
  obtain ⟨cg, al⟩ := figs_all (figL l) (some (.val (.str (tx l)))) st (by omega)
  have hsf := size_600 (show (figL l).length ≤ 600 by omega)
  unfold d_read_number dFun
  show finO (dSeq b_read_number_0 _ [some (.val (.str (tx l))), none, none] st) = _
  rw [seq_nx t0, seq_nx t1, seq_nx t2]
  unfold rdN
  have i1 : decide (((figL l).length : Int) > 60) = !decide ((figL l).length ≤ 60) := by
    by_cases h : (figL l).length ≤ 60
    · rw [decide_eq_true h, decide_eq_false (by omega)]; rfl
    · rw [decide_eq_false h, decide_eq_true (by omega)]; rfl
  by_cases h1 : figL l = []
  · have nb : numB l = false := by unfold numB; simp [h1]
    rw [nb]
    simp +decide [b_read_number_3, h1, outN]
  · by_cases h2 : (figL l).length ≤ 60
    · by_cases h3 : (figL l).all dig = true
      · have t3 : b_read_number_3 [some (.val (.str (tx l))), some (.val (.str (tx (figL l)))), none] st = .nx [some (.val (.str (tx l))), some (.val (.str (tx (figL l)))), none] st := by
          have i2 : decide (60 < ((figL l).length : Int)) = false := decide_eq_false (by omega)
          rw [h3] at al
          generalize (figL l).map (fun c => Val.bl (dig c)) = M at *
          simp +decide [b_read_number_3, h1, hsf, i2, signs_tx, cg, al, -gAll]
        rw [seq_nx t3]
        obtain ⟨c, r, e⟩ : ∃ c r, figL l = c :: r := by cases e : figL l with | nil => exact absurd e h1 | cons c r => exact ⟨c, r, rfl⟩
        have it := int_text h1 h2 h3
        have h640 : l.length ≤ 640 := by omega
        rw [e] at h3 hsf
        simp only [List.length_cons] at hsf
        by_cases h4 : c = 48
        · by_cases h5 : l = [48]
          · have nb : numB l = true := by subst h5; decide +kernel
            rw [nb]
            subst h5
            have it' : intText? (tx [48]) = some (valL [48]) := it
            simp +decide [b_read_number_4, b_read_number_5, e, h4, it', hsf, outN]
          · have nb : numB l = false := by unfold numB; simp [e, h4, h5]
            rw [nb]
            simp +decide [b_read_number_4, e, h4, h5, hsf, outN]
        · have nb : numB l = true := by
            unfold numB
            rw [e] at h2 ⊢
            rw [h3]
            simp only [List.length_cons] at h2
            simp [h4, h2]
          rw [nb]
          simp +decide [b_read_number_4, b_read_number_5, e, h4, hsf, it, h640, outN]
      · have nb : numB l = false := by
          unfold numB
          have h3' : (figL l).all dig = false := by simpa using h3
          rw [h3']
          simp
        rw [nb]
        have i2 : decide (60 < ((figL l).length : Int)) = false := decide_eq_false (by omega)
        have h3' : (figL l).all dig = false := by simpa using h3
        rw [h3'] at al
        generalize (figL l).map (fun c => Val.bl (dig c)) = M at *
        simp +decide [b_read_number_3, h1, hsf, i2, signs_tx, cg, al, outN, -gAll]
    · have nb : numB l = false := by unfold numB; simp [h2]
      rw [nb]
      have i2 : decide (60 < ((figL l).length : Int)) = true := decide_eq_true (by omega)
      simp +decide [b_read_number_3, h1, hsf, i2, outN]
theorem is_str_non : isB "str" .non = some false := by decide +kernel
theorem is_str_int (i : Int) : isB "str" (.int i) = some false := by show kitB "int" "str" = _; decide +kernel
theorem is_str_lst (l : List Val) : isB "str" (.lst l) = some false := by show kitB "list" "str" = _; decide +kernel
theorem is_str_tup (l : List Val) : isB "str" (.tup l) = some false := by show kitB "tuple" "str" = _; decide +kernel
theorem read_number_no (v : Val) (h : isB "str" v = some false) (st : Store) : d_read_number [.val v] st = .exc 2 [] st := by
  simp +decide [d_read_number, b_read_number_0, h]
/-! _law_read: the same -/
def nuV (o : Option Int) : Val := match o with
  | some n => .int n
  | none => .non
theorem lread_go (st : Store) (s0 s1 : Option Eg.Slot) : ∀ f : List Nat, f.all dig = true → dForGo (.nm 2) w_l_read_0 (f.map fun c => Val.str (tx [c])) [s0, s1, none] st = .nx [s0, s1, none] st
  | [], _ => rfl
  | c :: f, h => by
    simp only [List.all_cons, Bool.and_eq_true] at h
    have q := fg_notin c
    rw [h.1] at q
    have t : w_l_read_0 [s0, s1, some (.val (.str (tx [c])))] st = .nx [s0, s1, none] st := by
      simp [w_l_read_0, q, -gNotInS]
    simp only [List.map_cons, dForGo, setT, R.slot, List.length_cons, List.length_nil, List.set_cons_succ, List.set_cons_zero]
    simp only [show (2 : Nat) < 0 + 1 + 1 + 1 from by decide, if_pos, t]
    exact lread_go st s0 s1 f h.2
theorem lread_go_no (st : Store) (s0 s1 : Option Eg.Slot) : ∀ f : List Nat, f.all dig = false → dForGo (.nm 2) w_l_read_0 (f.map fun c => Val.str (tx [c])) [s0, s1, none] st = .rt (.val .non) st
  | [], h => by cases h
  | c :: f, h => by
    have q := fg_notin c
    cases hc : dig c with
    | false =>
      rw [hc] at q
      have t : w_l_read_0 [s0, s1, some (.val (.str (tx [c])))] st = .rt (.val .non) st := by
        simp [w_l_read_0, q, -gNotInS]
      simp only [List.map_cons, dForGo, setT, R.slot, List.length_cons, List.length_nil, List.set_cons_succ, List.set_cons_zero]
      simp only [show (2 : Nat) < 0 + 1 + 1 + 1 from by decide, if_pos, t]
    | true =>
      rw [hc] at q
      have t : w_l_read_0 [s0, s1, some (.val (.str (tx [c])))] st = .nx [s0, s1, none] st := by
        simp [w_l_read_0, q, -gNotInS]
      simp only [List.map_cons, dForGo, setT, R.slot, List.length_cons, List.length_nil, List.set_cons_succ, List.set_cons_zero]
      simp only [show (2 : Nat) < 0 + 1 + 1 + 1 from by decide, if_pos, t]
      exact lread_go_no st s0 s1 f (by simpa [hc] using h)
theorem head_take (l : List Nat) (c : Nat) : decide (l.take 1 = [c]) = decide (l.head? = some c) := by
  cases l <;> simp
theorem l_read_eq (l : List Nat) (hl : l.length ≤ 600) (st : Store) : d_l_read [.val (.str (tx l))] st = .ok (.val (nuV (rdN l))) st := by
  have hs := size_600 hl
  have t0 : b_l_read_0 [some (.val (.str (tx l))), none, none] st = .nx [some (.val (.str (tx l))), some (.val (.str (tx l))), none] st := by
    simp +decide [b_l_read_0]
  have t1 : b_l_read_1 [some (.val (.str (tx l))), some (.val (.str (tx l))), none] st = .nx [some (.val (.str (tx l))), some (.val (.str (tx (figL l)))), none] st := by
    have q := head_take l 45
    unfold figL
    by_cases h : l.head? = some 45
    · rw [decide_eq_true h] at q
      simp +decide [b_l_read_1, hs, h, q]
    · rw [decide_eq_false h] at q
      simp +decide [b_l_read_1, hs, h, q]
  have hf : (figL l).length ≤ l.length := by unfold figL; split <;> simp
  have hsf := size_600 (show (figL l).length ≤ 600 by omega)
  unfold d_l_read dFun
  show finO (dSeq b_l_read_0 _ [some (.val (.str (tx l))), none, none] st) = _
  rw [seq_nx t0, seq_nx t1]
  unfold rdN
  by_cases h1 : figL l = []
  · have nb : numB l = false := by unfold numB; simp [h1]
    rw [nb]
    simp +decide [b_l_read_2, h1, nuV]
  · by_cases h2 : (figL l).length ≤ 60
    · have i2 : decide (60 < ((figL l).length : Int)) = false := decide_eq_false (by omega)
      obtain ⟨c, r, e⟩ : ∃ c r, figL l = c :: r := by cases e : figL l with | nil => exact absurd e h1 | cons c r => exact ⟨c, r, rfl⟩
      by_cases h4 : c = 48 ∧ l ≠ [48]
      · have nb : numB l = false := by unfold numB; simp [e, h4]
        rw [nb]
        rw [e] at hsf h2
        simp only [List.length_cons] at hsf h2
        have i3 : ¬ (60 : Int) < (r.length : Int) + 1 := by omega
        simp +decide [b_l_read_2, e, h4, hsf, i3, nuV]
      · have t2 : b_l_read_2 [some (.val (.str (tx l))), some (.val (.str (tx (figL l)))), none] st = .nx [some (.val (.str (tx l))), some (.val (.str (tx (figL l)))), none] st := by
          rw [e] at hsf h2 ⊢
          simp only [List.length_cons] at hsf h2
          have i3 : ¬ (60 : Int) < (r.length : Int) + 1 := by omega
          by_cases h5 : c = 48
          · have h6 : l = [48] := by
              by_cases q : l = [48]
              · exact q
              · exact absurd ⟨h5, q⟩ h4
            simp +decide [b_l_read_2, hsf, i3, h5, h6]
          · simp +decide [b_l_read_2, hsf, i3, h5]
        rw [seq_nx t2]
        by_cases h3 : (figL l).all dig = true
        · have go := lread_go st (some (.val (.str (tx l)))) (some (.val (.str (tx (figL l))))) (figL l) h3
          have t3 : b_l_read_3 [some (.val (.str (tx l))), some (.val (.str (tx (figL l)))), none] st = .nx [some (.val (.str (tx l))), some (.val (.str (tx (figL l)))), none] st := by
            simp [b_l_read_3, hsf, signs_tx, go]
          rw [seq_nx t3]
          have it := int_text h1 h2 h3
          have h640 : l.length ≤ 640 := by omega
          have nb : numB l = true := by
            unfold numB
            rw [h3]
            rw [e] at h2 ⊢
            simp only [List.length_cons] at h2
            by_cases h5 : c = 48
            · have h6 : l = [48] := by
                by_cases q : l = [48]
                · exact q
                · exact absurd ⟨h5, q⟩ h4
              simp [h6, h2]
            · simp [h5, h2]
          rw [nb]
          simp +decide [b_l_read_4, it, h640, nuV]
        · have h3' : (figL l).all dig = false := by simpa using h3
          have go := lread_go_no st (some (.val (.str (tx l)))) (some (.val (.str (tx (figL l))))) (figL l) h3'
          have nb : numB l = false := by unfold numB; rw [h3']; simp
          rw [nb]
          simp [b_l_read_3, hsf, signs_tx, go, nuV]
    · have nb : numB l = false := by unfold numB; simp [h2]
      rw [nb]
      have i2 : decide (60 < ((figL l).length : Int)) = true := decide_eq_true (by omega)
      simp +decide [b_l_read_2, h1, hsf, i2, nuV]
/-! read_end, span, read_span -/
@[simp] theorem lit_dots : Str.ofString ".." = tx [46, 46] := by decide +kernel
@[simp] theorem lit_lb : Str.ofString "[" = tx [91] := by decide +kernel
@[simp] theorem lit_lp : Str.ofString "(" = tx [40] := by decide +kernel
@[simp] theorem lit_rb : Str.ofString "]" = tx [93] := by decide +kernel
@[simp] theorem lit_rp : Str.ofString ")" = tx [41] := by decide +kernel
@[simp] theorem lit_comma : Str.ofString "," = tx [44] := by decide +kernel
/-- an end: 0 shut, 1 open, 2 endless -/
def obE (e : Int × Int) : Ob := if e.1 = 0 then ⟨4, [("place", .int e.2)]⟩ else if e.1 = 1 then ⟨5, [("place", .int e.2)]⟩ else ⟨6, []⟩
def loE (e : Int × Int) : Option Int := if e.1 = 0 then some e.2 else if e.1 = 1 then some (e.2 + 1) else none
def hiE (e : Int × Int) : Option Int := if e.1 = 0 then some (e.2 + 1) else if e.1 = 1 then some e.2 else none
def W3 (w : Int) : Prop := w = 0 ∨ w = 1 ∨ w = 2
@[simp] theorem sn_low : (Str.ofString "low" == Str.ofString "place") = false := by decide +kernel
@[simp] theorem sn_behind : (Str.ofString "behind" == Str.ofString "place") = false := by decide +kernel
theorem mlow (e : Int × Int) (hw : W3 e.1) (env : Evn) (st : Store) (i j : Nat) (he : env[j]? = some (some (.val (.obj i)))) (h : st[i]? = some (obE e)) : dMeth false [(4, d_Shut_low), (5, d_Open_low), (6, d_End_low)] "low" 1 (dVar j) [] env st = .ok (.val (oi (loE e))) st := by
  obtain ⟨w, p⟩ := e
  rcases hw with rfl | rfl | rfl <;> simp +decide [obE] at h <;> simp +decide [loE, dMeth, gM, h, he, List.lookup, dVar, d_Shut_low, b_Shut_low_0, d_Open_low, b_Open_low_0, d_End_low, b_End_low_0, dFld, gFld]
theorem mbehind (e : Int × Int) (hw : W3 e.1) (env : Evn) (st : Store) (i j : Nat) (he : env[j]? = some (some (.val (.obj i)))) (h : st[i]? = some (obE e)) : dMeth false [(4, d_Shut_behind), (5, d_Open_behind), (6, d_End_behind)] "behind" 1 (dVar j) [] env st = .ok (.val (oi (hiE e))) st := by
  obtain ⟨w, p⟩ := e
  rcases hw with rfl | rfl | rfl <;> simp +decide [obE] at h <;> simp +decide [hiE, dMeth, gM, h, he, List.lookup, dVar, d_Shut_behind, b_Shut_behind_0, d_Open_behind, b_Open_behind_0, d_End_behind, b_End_behind_0, dFld, gFld]
def lt2 : Option Int → Option Int → Bool
  | some a, some b => decide (a < b)
  | _, _ => true
theorem is_span_eq (a b : Option Int) (st : Store) : d_is_span [.val (oi a), .val (oi b)] st = .ok (.val (.bl (lt2 a b))) st := by
  cases a <;> cases b <;> simp [d_is_span, b_is_span_0, lt2]
/-- what is told of a span's text -/
inductive SpT where
  | no | em | sp (lo hi : Option Int)
def outS (r : SpT) (st : Store) : Out R := match r with
  | .no => .exc 2 [] st
  | .em => .exc 1 [] st
  | .sp lo hi => .ok (.val (.tup [oi lo, oi hi])) st
def spT (lo hi : Option Int) : SpT := if lt2 lo hi = true then .sp lo hi else .em
theorem span_eq (e f : Int × Int) (hw : W3 e.1) (hu : W3 f.1) (st : Store) (i j : Nat) (h : st[i]? = some (obE e)) (k : st[j]? = some (obE f)) : d_span [.val (.obj i), .val (.obj j)] st = outS (spT (loE e) (hiE f)) st := by
  have m1 := mlow e hw [some (.val (.obj i)), some (.val (.obj j)), none, none] st i 0 rfl h
  have m2 := mbehind f hu [some (.val (.obj i)), some (.val (.obj j)), some (.val (oi (loE e))), none] st j 1 rfl k
  have s := is_span_eq (loE e) (hiE f) st
  have t0 : b_span_0 [some (.val (.obj i)), some (.val (.obj j)), none, none] st = .nx [some (.val (.obj i)), some (.val (.obj j)), some (.val (oi (loE e))), none] st := by
    simp [b_span_0, m1, -dMeth]
  have t1 : b_span_1 [some (.val (.obj i)), some (.val (.obj j)), some (.val (oi (loE e))), none] st = .nx [some (.val (.obj i)), some (.val (.obj j)), some (.val (oi (loE e))), some (.val (oi (hiE f)))] st := by
    simp [b_span_1, m2, -dMeth]
  unfold d_span dFun
  show finO (dSeq b_span_0 _ [some (.val (.obj i)), some (.val (.obj j)), none, none] st) = _
  rw [seq_nx t0, seq_nx t1]
  unfold spT
  cases c : lt2 (loE e) (hiE f) <;> simp [b_span_2, b_span_3, s, c, outS]
/-- the end that a bracket and a word write -/
def rdE (br : Nat) (w : List Nat) (sh : Nat) : Option (Int × Int) :=
  if w = [46, 46] ∧ br ≠ sh then some (2, 0) else (rdN w).map fun p => (if br = sh then 0 else 1, p)
theorem rdE_w3 {br sh : Nat} {w : List Nat} {e : Int × Int} (h : rdE br w sh = some e) : W3 e.1 := by
  unfold rdE at h
  split at h
  · cases h; exact .inr (.inr rfl)
  · cases e2 : rdN w with
    | none => rw [e2] at h; cases h
    | some p =>
      rw [e2] at h
      have := Option.some.inj h
      subst this
      by_cases q : br = sh
      · simp [q, W3]
      · simp [q, W3]
def outE (o : Option (Int × Int)) (st : Store) : Out R := match o with
  | some e => .ok (.val (.obj st.length)) (st ++ [obE e])
  | none => .exc 2 [] st
theorem read_end_eq (br sh : Nat) (w : List Nat) (hl : w.length ≤ 600) (st : Store) : d_read_end [.val (.str (tx [br])), .val (.str (tx w)), .val (.str (tx [sh]))] st = outE (rdE br w sh) st := by
  have r := read_number_eq w hl st
  unfold rdE
  by_cases h : w = [46, 46] ∧ br ≠ sh
  · rw [if_pos h]
    simp +decide [d_read_end, b_read_end_0, h.1, h.2, outE, dMake0, obE]
  · rw [if_neg h]
    have t0 : b_read_end_0 [some (.val (.str (tx [br]))), some (.val (.str (tx w))), some (.val (.str (tx [sh]))), none] st = .nx [some (.val (.str (tx [br]))), some (.val (.str (tx w))), some (.val (.str (tx [sh]))), none] st := by
      by_cases h1 : w = [46, 46]
      · have h2 : br = sh := by
          by_cases q : br = sh
          · exact q
          · exact absurd ⟨h1, q⟩ h
        simp +decide [b_read_end_0, h1, h2]
      · simp +decide [b_read_end_0, h1]
    unfold d_read_end dFun
    show finO (dSeq b_read_end_0 _ [some (.val (.str (tx [br]))), some (.val (.str (tx w))), some (.val (.str (tx [sh]))), none] st) = _
    rw [seq_nx t0]
    cases e : rdN w with
    | none =>
      rw [e] at r
      simp only [outN] at r
      simp [b_read_end_1, r, outE]
    | some p =>
      rw [e] at r
      simp only [outN] at r
      have t1 : b_read_end_1 [some (.val (.str (tx [br]))), some (.val (.str (tx w))), some (.val (.str (tx [sh]))), none] st = .nx [some (.val (.str (tx [br]))), some (.val (.str (tx w))), some (.val (.str (tx [sh]))), some (.val (.int p))] st := by
        simp [b_read_end_1, r]
      rw [seq_nx t1]
      by_cases q : br = sh
      · simp +decide [b_read_end_2, q, outE, dMake, obE, d_Shut___init__, b_Shut___init___0, dSetF, gPut]
      · simp +decide [b_read_end_2, b_read_end_3, q, outE, dMake, obE, d_Open___init__, b_Open___init___0, dSetF, gPut]
/-- the ends of a span's text -/
def rdS3 (h : Nat) (m : List Nat) (t : Nat) : SpT :=
  if (h = 91 ∨ h = 40) ∧ (t = 93 ∨ t = 41) then
    match cut1 44 m with
    | none => .no
    | some (p, q) => match rdE h p 91 with
      | none => .no
      | some e => match rdE t q 93 with
        | none => .no
        | some f => spT (loE e) (hiE f)
  else .no
def rdS (l : List Nat) : SpT := if l.length < 2 then .no else rdS3 (l.headD 0) ((l.drop 1).dropLast) (l.getLast?.getD 0)
theorem two_form {l : List Nat} (h : ¬ l.length < 2) : ∃ a m t, l = a :: (m ++ [t]) := by
  cases l with
  | nil => simp at h
  | cons a l =>
    cases hl : l.reverse with
    | nil =>
      have : l = [] := by simpa using hl
      rw [this] at h
      simp at h
    | cons t r =>
      refine ⟨a, r.reverse, t, ?_⟩
      have e := congrArg List.reverse hl
      rw [List.reverse_reverse, List.reverse_cons] at e
      rw [e]
theorem rdS_form (a : Nat) (m : List Nat) (t : Nat) : rdS (a :: (m ++ [t])) = rdS3 a m t := by
  have h : ¬ (a :: (m ++ [t])).length < 2 := by simp
  have g : (a :: (m ++ [t])).getLast?.getD 0 = t := by
    have : ((a :: m) ++ [t]).getLast? = some t := List.getLast?_concat
    rw [show a :: (m ++ [t]) = (a :: m) ++ [t] from rfl, this]
    rfl
  unfold rdS
  rw [if_neg h, g]
  simp
theorem at_tx_last (a : Nat) (m : List Nat) (t : Nat) : atI (a :: (m ++ [t])) (-1) = some t := Eg.atI_last (a :: m) t
theorem read_span_eq (l : List Nat) (hl : l.length ≤ 600) (st : Store) : ∃ ex, d_read_span [.val (.str (tx l))] st = outS (rdS l) (st ++ ex) := by
  have hs := size_600 hl
  by_cases h2 : l.length < 2
  · refine ⟨[], ?_⟩
    have i : decide ((l.length : Int) < 2) = true := decide_eq_true (by omega)
    unfold rdS
    rw [if_pos h2]
    simp +decide [d_read_span, b_read_span_0, is_str, hs, i, outS]
  · obtain ⟨a, m, t, rfl⟩ := two_form h2
    rw [rdS_form]
    have i : decide (((a :: (m ++ [t])).length : Int) < 2) = false := decide_eq_false (by omega)
    have al := at_tx_last a m t
    have t0 : b_read_span_0 [some (.val (.str (tx (a :: (m ++ [t]))))), none, none, none, none, none] st = .nx [some (.val (.str (tx (a :: (m ++ [t]))))), none, none, none, none, none] st := by
      generalize hL : a :: (m ++ [t]) = L at *
      simp +decide [b_read_span_0, is_str, hs, i]
    have g0 : gIx (.str (tx (a :: (m ++ [t])))) (.int 0) = some (.val (.str (tx [a]))) := by
      simp only [gIx, tx_cps, tx_len, hs, if_true, Eg.atI_zero]
      rfl
    have g1 : gIx (.str (tx (a :: (m ++ [t])))) (.int (-1)) = some (.val (.str (tx [t]))) := by
      simp only [gIx, tx_cps, tx_len, hs, if_true, al]
      rfl
    have gs : gSl (.str (tx (a :: (m ++ [t])))) (some 1) (some (-1)) = some (.val (.str (tx m))) := by
      simp only [gSl, tx_len, hs, if_true, tx_mid]
      simp
    generalize hL : tx (a :: (m ++ [t])) = L at *
    unfold rdS3
    by_cases hb : (a = 91 ∨ a = 40) ∧ (t = 93 ∨ t = 41)
    · rw [if_pos hb]
      have t1 : b_read_span_1 [some (.val (.str L)), none, none, none, none, none] st = .nx [some (.val (.str L)), none, none, none, none, none] st := by
        obtain ⟨rfl | rfl, rfl | rfl⟩ := hb <;> simp +decide [b_read_span_1, g0, g1, -gIx]
      have hm : m.length ≤ 600 := by simp at hl; omega
      have hms := size_600 hm
      rcases cut1_ex 44 m with ⟨hn, hc⟩ | ⟨p, q, rfl, hp, hc⟩
      · rw [hc]
        have pn := tx_part_none hn
        have t2 : b_read_span_2 [some (.val (.str L)), none, none, none, none, none] st = .nx [some (.val (.str L)), some (.val (.str (tx m))), some (.val (.str (tx []))), some (.val (.str (tx []))), none, none] st := by
          simp +decide [b_read_span_2, gs, pn, hms, -gSl]
        refine ⟨[], ?_⟩
        unfold d_read_span dFun
        show finO (dSeq b_read_span_0 _ [some (.val (.str L)), none, none, none, none, none] st) = _
        rw [seq_nx t0, seq_nx t1, seq_nx t2]
        simp +decide [b_read_span_3, outS]
      · rw [hc]
        have pn := tx_part (q := q) hp
        have t2 : b_read_span_2 [some (.val (.str L)), none, none, none, none, none] st = .nx [some (.val (.str L)), some (.val (.str (tx p))), some (.val (.str (tx [44]))), some (.val (.str (tx q))), none, none] st := by
          generalize hM : p ++ 44 :: q = M at *
          simp +decide [b_read_span_2, gs, pn, hms, -gSl]
        have t3 : b_read_span_3 [some (.val (.str L)), some (.val (.str (tx p))), some (.val (.str (tx [44]))), some (.val (.str (tx q))), none, none] st = .nx [some (.val (.str L)), some (.val (.str (tx p))), some (.val (.str (tx [44]))), some (.val (.str (tx q))), none, none] st := by
          simp +decide [b_read_span_3]
        have lp : p.length ≤ 600 := by simp at hm; omega
        have lq : q.length ≤ 600 := by simp at hm; omega
        have r1 := read_end_eq a 91 p lp st
        simp only
        cases e1 : rdE a p 91 with
        | none =>
          rw [e1] at r1
          simp only [outE] at r1
          refine ⟨[], ?_⟩
          unfold d_read_span dFun
          show finO (dSeq b_read_span_0 _ [some (.val (.str L)), none, none, none, none, none] st) = _
          rw [seq_nx t0, seq_nx t1, seq_nx t2, seq_nx t3]
          simp +decide [b_read_span_4, g0, r1, outS, -gIx]
        | some e =>
          rw [e1] at r1
          simp only [outE] at r1
          have t4 : b_read_span_4 [some (.val (.str L)), some (.val (.str (tx p))), some (.val (.str (tx [44]))), some (.val (.str (tx q))), none, none] st = .nx [some (.val (.str L)), some (.val (.str (tx p))), some (.val (.str (tx [44]))), some (.val (.str (tx q))), some (.val (.obj st.length)), none] (st ++ [obE e]) := by
            simp +decide [b_read_span_4, g0, r1, -gIx]
          have r2 := read_end_eq t 93 q lq (st ++ [obE e])
          simp only
          cases e2 : rdE t q 93 with
          | none =>
            rw [e2] at r2
            simp only [outE] at r2
            refine ⟨[obE e], ?_⟩
            unfold d_read_span dFun
            show finO (dSeq b_read_span_0 _ [some (.val (.str L)), none, none, none, none, none] st) = _
            rw [seq_nx t0, seq_nx t1, seq_nx t2, seq_nx t3, seq_nx t4]
            simp +decide [b_read_span_5, g1, r2, outS, -gIx]
          | some f =>
            rw [e2] at r2
            simp only [outE] at r2
            have t5 : b_read_span_5 [some (.val (.str L)), some (.val (.str (tx p))), some (.val (.str (tx [44]))), some (.val (.str (tx q))), some (.val (.obj st.length)), none] (st ++ [obE e]) = .nx [some (.val (.str L)), some (.val (.str (tx p))), some (.val (.str (tx [44]))), some (.val (.str (tx q))), some (.val (.obj st.length)), some (.val (.obj (st ++ [obE e]).length))] (st ++ [obE e] ++ [obE f]) := by
              simp +decide [b_read_span_5, g1, r2, -gIx]
            have sp := span_eq e f (rdE_w3 e1) (rdE_w3 e2) (st ++ [obE e] ++ [obE f]) st.length (st ++ [obE e]).length (by simp) (by simp)
            refine ⟨[obE e] ++ [obE f], ?_⟩
            unfold d_read_span dFun
            show finO (dSeq b_read_span_0 _ [some (.val (.str L)), none, none, none, none, none] st) = _
            rw [seq_nx t0, seq_nx t1, seq_nx t2, seq_nx t3, seq_nx t4, seq_nx t5, ← List.append_assoc]
            generalize st ++ [obE e] ++ [obE f] = st2 at *
            unfold spT at *
            cases hc2 : lt2 (loE e) (hiE f) <;> rw [hc2] at sp <;> simp [outS] at sp <;> simp [b_read_span_6, sp, outS, hc2]
    · rw [if_neg hb]
      refine ⟨[], ?_⟩
      unfold d_read_span dFun
      show finO (dSeq b_read_span_0 _ [some (.val (.str L)), none, none, none, none, none] st) = _
      rw [seq_nx t0]
      have x1 : [a] = [91] ↔ a = 91 := by simp
      by_cases ha : a = 91 ∨ a = 40
      · have ht : ¬ (t = 93 ∨ t = 41) := fun z => hb ⟨ha, z⟩
        obtain ⟨ht1, ht2⟩ := not_or.mp ht
        have ht1' : ¬ 93 = t := fun z => ht1 z.symm
        have ht2' : ¬ 41 = t := fun z => ht2 z.symm
        rcases ha with rfl | rfl <;> simp +decide [b_read_span_1, g0, g1, outS, ht1, ht2, ht1', ht2', -gIx]
      · obtain ⟨ht1, ht2⟩ := not_or.mp ha
        have ht1' : ¬ 91 = a := fun z => ht1 z.symm
        have ht2' : ¬ 40 = a := fun z => ht2 z.symm
        simp +decide [b_read_span_1, g0, g1, outS, ht1, ht2, ht1', ht2', -gIx]
theorem read_span_no (v : Val) (h : isB "str" v = some false) (st : Store) : d_read_span [.val v] st = .exc 2 [] st := by
  simp +decide [d_read_span, b_read_span_0, h]
/-! _law_end -/
def endV (br : Nat) (w : List Nat) (sh : Nat) (more : Int) : List Val :=
  if w = [46, 46] ∧ br ≠ sh then [.non] else match rdN w with
  | none => []
  | some p => [.int (p + more)]
theorem l_end_eq (br sh : Nat) (w : List Nat) (more : Int) (hl : w.length ≤ 600) (st : Store) : d_l_end [.val (.str (tx [br])), .val (.str (tx w)), .val (.str (tx [sh])), .val (.int more)] st = .ok (.own (endV br w sh more)) st := by
  have r := l_read_eq w hl st
  unfold endV
  by_cases h : w = [46, 46] ∧ br ≠ sh
  · rw [if_pos h]
    simp +decide [d_l_end, b_l_end_0, h.1, h.2]
  · rw [if_neg h]
    have t0 : b_l_end_0 [some (.val (.str (tx [br]))), some (.val (.str (tx w))), some (.val (.str (tx [sh]))), some (.val (.int more)), none] st = .nx [some (.val (.str (tx [br]))), some (.val (.str (tx w))), some (.val (.str (tx [sh]))), some (.val (.int more)), none] st := by
      by_cases h1 : w = [46, 46]
      · have h2 : br = sh := by
          by_cases q : br = sh
          · exact q
          · exact absurd ⟨h1, q⟩ h
        simp +decide [b_l_end_0, h1, h2]
      · simp +decide [b_l_end_0, h1]
    unfold d_l_end dFun
    show finO (dSeq b_l_end_0 _ [some (.val (.str (tx [br]))), some (.val (.str (tx w))), some (.val (.str (tx [sh]))), some (.val (.int more)), none] st) = _
    rw [seq_nx t0]
    cases e : rdN w with
    | none =>
      rw [e] at r
      simp only [nuV] at r
      simp [b_l_end_1, b_l_end_2, r]
    | some p =>
      rw [e] at r
      simp only [nuV] at r
      simp [b_l_end_1, b_l_end_2, b_l_end_3, r]
def loV : Option (Int × Int) → List Val
  | none => []
  | some e => [oi (loE e)]
def hiV : Option (Int × Int) → List Val
  | none => []
  | some e => [oi (hiE e)]
theorem endV_lo {br : Nat} {w : List Nat} (h : br = 91 ∨ br = 40) : endV br w 91 (if br = 40 then 1 else 0) = loV (rdE br w 91) := by
  unfold endV rdE
  by_cases c : w = [46, 46] ∧ br ≠ 91
  · rw [if_pos c, if_pos c]; simp [loV, loE, oi]
  · rw [if_neg c, if_neg c]
    cases rdN w with
    | none => rfl
    | some p => rcases h with rfl | rfl <;> simp [loV, loE, oi]
theorem endV_hi {br : Nat} {w : List Nat} (h : br = 93 ∨ br = 41) : endV br w 93 (if br = 93 then 1 else 0) = hiV (rdE br w 93) := by
  unfold endV rdE
  by_cases c : w = [46, 46] ∧ br ≠ 93
  · rw [if_pos c, if_pos c]; simp [hiV, hiE, oi]
  · rw [if_neg c, if_neg c]
    cases rdN w with
    | none => rfl
    | some p => rcases h with rfl | rfl <;> simp [hiV, hiE, oi]
/-! show_span -/
@[simp] theorem lit_nolo : Str.ofString "(.." = tx [40, 46, 46] := by decide +kernel
@[simp] theorem lit_nohi : Str.ofString "..)" = tx [46, 46, 41] := by decide +kernel
def loL : Option Int → List Nat
  | none => [40, 46, 46]
  | some a => 91 :: numI a
def hiL : Option Int → List Nat
  | none => [46, 46, 41]
  | some a => numI a ++ [41]
/-- a span's text -/
def shL (lo hi : Option Int) : List Nat := loL lo ++ 44 :: hiL hi
def SmO (k : Nat) (o : Option Int) : Prop := ∀ a, o = some a → a.natAbs < 10 ^ k
theorem numI_lenk {i : Int} {k : Nat} (hk : 0 < k) (h : i.natAbs < 10 ^ k) : (numI i).length ≤ k + 1 := by
  have := TL.numL_len hk h
  unfold numI
  split <;> simp <;> omega
theorem str_ok {i : Int} (h : i.natAbs < 10 ^ 500) : strOk i = true := by
  unfold strOk
  refine decide_eq_true ?_
  by_cases z : i.natAbs = 0
  · rw [z]; decide
  · rw [Nat.log2_lt z]
    exact Nat.lt_of_lt_of_le h (by decide +kernel)
theorem loL_len {lo : Option Int} (h : SmO 100 lo) : (loL lo).length ≤ 102 := by
  cases lo with
  | none => decide
  | some a => have := numI_lenk (by decide) (h a rfl); simp [loL]; omega
theorem hiL_len {hi : Option Int} (h : SmO 100 hi) : (hiL hi).length ≤ 102 := by
  cases hi with
  | none => decide
  | some a => have := numI_lenk (by decide) (h a rfl); simp [hiL]; omega
theorem shL_len {lo hi : Option Int} (h : SmO 100 lo) (h' : SmO 100 hi) : (shL lo hi).length ≤ 205 := by
  have := loL_len h
  have := hiL_len h'
  simp [shL]; omega
theorem sm_str {a : Int} (h : a.natAbs < 10 ^ 100) : gStr [.int a] = some (.val (.str (tx (numI a)))) := by
  have : strOk a = true := str_ok (Nat.lt_of_lt_of_le h (by decide +kernel))
  simp only [gStr, this, if_true]
  rw [tx_num]
theorem show_span_eq (lo hi : Option Int) (h : SmO 100 lo) (h' : SmO 100 hi) (st : Store) : d_show_span [.val (.tup [oi lo, oi hi])] st = .ok (.val (.str (tx (shL lo hi)))) st := by
  have l1 := loL_len h
  have l2 := hiL_len h'
  have t1 : ∀ S4 : Option Eg.Slot, b_show_span_2 [some (.val (.tup [oi lo, oi hi])), some (.val (oi lo)), some (.val (oi hi)), some (.val (.str (tx [40, 46, 46]))), S4] st = .nx [some (.val (.tup [oi lo, oi hi])), some (.val (oi lo)), some (.val (oi hi)), some (.val (.str (tx (loL lo)))), S4] st := by
    intro S4
    cases lo with
    | none => simp [b_show_span_2, loL, oi]
    | some a =>
      have := sm_str (h a rfl)
      have ll := numI_lenk (by decide) (h a rfl)
      have hs := size_600 (show (numI a).length + 1 ≤ 600 by omega)
      simp [b_show_span_2, loL, oi, this, hs, -gStr, Nat.add_comm]
  have t2 : b_show_span_4 [some (.val (.tup [oi lo, oi hi])), some (.val (oi lo)), some (.val (oi hi)), some (.val (.str (tx (loL lo)))), some (.val (.str (tx [46, 46, 41])))] st = .nx [some (.val (.tup [oi lo, oi hi])), some (.val (oi lo)), some (.val (oi hi)), some (.val (.str (tx (loL lo)))), some (.val (.str (tx (hiL hi))))] st := by
    cases hi with
    | none => simp [b_show_span_4, hiL, oi]
    | some a =>
      have := sm_str (h' a rfl)
      have ll := numI_lenk (by decide) (h' a rfl)
      have hs := size_600 (show (numI a).length + 1 ≤ 600 by omega)
      simp [b_show_span_4, hiL, oi, this, hs, -gStr]
  have t0 : b_show_span_0 [some (.val (.tup [oi lo, oi hi])), none, none, none, none] st = .nx [some (.val (.tup [oi lo, oi hi])), some (.val (oi lo)), some (.val (oi hi)), none, none] st := by
    simp [b_show_span_0]
  have t01 : b_show_span_1 [some (.val (.tup [oi lo, oi hi])), some (.val (oi lo)), some (.val (oi hi)), none, none] st = .nx [some (.val (.tup [oi lo, oi hi])), some (.val (oi lo)), some (.val (oi hi)), some (.val (.str (tx [40, 46, 46]))), none] st := by
    simp [b_show_span_1]
  have t03 : b_show_span_3 [some (.val (.tup [oi lo, oi hi])), some (.val (oi lo)), some (.val (oi hi)), some (.val (.str (tx (loL lo)))), none] st = .nx [some (.val (.tup [oi lo, oi hi])), some (.val (oi lo)), some (.val (oi hi)), some (.val (.str (tx (loL lo)))), some (.val (.str (tx [46, 46, 41])))] st := by
    simp [b_show_span_3]
  unfold d_show_span dFun
  show finO (dSeq b_show_span_0 _ [some (.val (.tup [oi lo, oi hi])), none, none, none, none] st) = _
  rw [seq_nx t0, seq_nx t01, seq_nx (t1 none), seq_nx t03, seq_nx t2]
  unfold shL
  generalize loL lo = A at *
  generalize hiL hi = B at *
  have h1 := size_600 (show A.length + 1 ≤ 600 by omega)
  have h2 := size_600 (show A.length + 1 + B.length ≤ 600 by omega)
  simp [b_show_span_5, h1, h2]
/-- read again -/
theorem rdS_shown {lo hi : Option Int} (h : SmO 60 lo) (h' : SmO 60 hi) (ok : lt2 lo hi = true) : rdS (shL lo hi) = .sp lo hi := by
  have key : ∀ (a : Nat) (p q : List Nat) (e f : Int × Int), (a = 91 ∨ a = 40) → 44 ∉ p → rdE a p 91 = some e → rdE 41 q 93 = some f → loE e = lo → hiE f = hi → rdS (a :: ((p ++ 44 :: q) ++ [41])) = .sp lo hi := by
    intro a p q e f ha hp h1 h2 h3 h4
    rw [rdS_form]
    unfold rdS3
    rw [if_pos ⟨ha, .inr rfl⟩, cut1_app hp]
    simp only [h1, h2, h3, h4]
    unfold spT
    rw [if_pos ok]
  have dots : ∀ i : Int, numI i ≠ [46, 46] := fun i e => numI_free (i := i) (c := 46) (.inr (.inl rfl)) (by rw [e]; exact List.mem_cons_self ..)
  cases lo with
  | none =>
    cases hi with
    | none => exact key 40 [46, 46] [46, 46] (2, 0) (2, 0) (.inr rfl) (by decide) (by decide) (by decide) rfl rfl
    | some b =>
      have := key 40 [46, 46] (numI b) (2, 0) (1, b) (.inr rfl) (by decide) (by decide) (by
        unfold rdE
        rw [if_neg (fun z => dots b z.1), rdN_num (h' b rfl)]
        rfl) rfl rfl
      simpa [shL, loL, hiL] using this
  | some a =>
    have ra : rdE 91 (numI a) 91 = some (0, a) := by
      unfold rdE
      rw [if_neg (fun z => dots a z.1), rdN_num (h a rfl)]
      rfl
    have fa : 44 ∉ numI a := numI_free (.inl (by decide))
    cases hi with
    | none =>
      have := key 91 (numI a) [46, 46] (0, a) (2, 0) (.inl rfl) fa ra (by decide) rfl rfl
      simpa [shL, loL, hiL] using this
    | some b =>
      have := key 91 (numI a) (numI b) (0, a) (1, b) (.inl rfl) fa ra (by
        unfold rdE
        rw [if_neg (fun z => dots b z.1), rdN_num (h' b rfl)]
        rfl) rfl rfl
      simpa [shL, loL, hiL] using this
@[simp] theorem lit_notext : Str.ofString "NoText" = tx [78, 111, 84, 101, 120, 116] := by decide +kernel
@[simp] theorem lit_empty : Str.ofString "Empty" = tx [69, 109, 112, 116, 121] := by decide +kernel
def dueV : SpT → Val
  | .no => .str (tx [78, 111, 84, 101, 120, 116])
  | .em => .str (tx [69, 109, 112, 116, 121])
  | .sp lo hi => .tup [oi lo, oi hi]
theorem due_notin (l : List Nat) (c : Nat) : gNotInS (.str (tx [c])) (.str (tx l)) = some (.val (.bl (!decide (c ∈ l)))) := by
  by_cases h : c ∈ l <;> simp [gNotInS, h]
theorem l_due_eq (l : List Nat) (hl : l.length ≤ 600) (st : Store) : d_l_due [.val (.str (tx l))] st = .ok (.val (dueV (rdS l))) st := by
  have hs := size_600 hl
  by_cases h2 : l.length < 2
  · have i : decide ((l.length : Int) < 2) = true := decide_eq_true (by omega)
    unfold rdS
    rw [if_pos h2]
    simp +decide [d_l_due, b_l_due_0, hs, i, dueV]
  · obtain ⟨a, m, t, rfl⟩ := two_form h2
    rw [rdS_form]
    have i : decide (((a :: (m ++ [t])).length : Int) < 2) = false := decide_eq_false (by omega)
    have al := at_tx_last a m t
    have g0 : gIx (.str (tx (a :: (m ++ [t])))) (.int 0) = some (.val (.str (tx [a]))) := by
      simp only [gIx, tx_cps, tx_len, hs, if_true, Eg.atI_zero]
      rfl
    have g1 : gIx (.str (tx (a :: (m ++ [t])))) (.int (-1)) = some (.val (.str (tx [t]))) := by
      simp only [gIx, tx_cps, tx_len, hs, if_true, al]
      rfl
    have gs : gSl (.str (tx (a :: (m ++ [t])))) (some 1) (some (-1)) = some (.val (.str (tx m))) := by
      simp only [gSl, tx_len, hs, if_true, tx_mid]
      simp
    have gl : gLen [.str (tx (a :: (m ++ [t])))] = some (.val (.int ((a :: (m ++ [t])).length : Int))) := by
      simp [hs]
      simpa using hs
    have gn := due_notin (a :: (m ++ [t])) 44
    have hm : m.length ≤ 600 := by simp at hl; omega
    have hms := size_600 hm
    generalize ((a :: (m ++ [t])).length : Int) = N at *
    unfold rdS3
    by_cases hb : (a = 91 ∨ a = 40) ∧ (t = 93 ∨ t = 41)
    · rw [if_pos hb]
      have mem : decide (44 ∈ a :: (m ++ [t])) = decide (44 ∈ m) := by
        have x1 : ¬ 44 = a := by omega
        have x2 : ¬ 44 = t := by omega
        simp [x1, x2]
      rw [mem] at gn
      generalize hL : tx (a :: (m ++ [t])) = L at *
      rcases cut1_ex 44 m with ⟨hn, hc⟩ | ⟨p, q, rfl, hp, hc⟩
      · rw [hc]
        rw [decide_eq_false hn] at gn
        unfold d_l_due dFun
        obtain ⟨rfl | rfl, rfl | rfl⟩ := hb <;> simp +decide [b_l_due_0, gl, i, g0, g1, gn, dueV, -gIx, -gNotInS, -gLen]
      · rw [hc]
        have pn := tx_part (q := q) hp
        have hmem : 44 ∈ p ++ 44 :: q := by simp
        rw [decide_eq_true hmem] at gn
        have lp : p.length ≤ 600 := by simp at hm; omega
        have lq : q.length ≤ 600 := by simp at hm; omega
        have t0 : b_l_due_0 [some (.val (.str L)), none, none, none, none, none] st = .nx [some (.val (.str L)), none, none, none, none, none] st := by
          obtain ⟨rfl | rfl, rfl | rfl⟩ := hb <;> simp +decide [b_l_due_0, gl, i, g0, g1, gn, -gIx, -gNotInS, -gLen]
        have t1 : b_l_due_1 [some (.val (.str L)), none, none, none, none, none] st = .nx [some (.val (.str L)), some (.val (.str (tx p))), some (.val (.str (tx [44]))), some (.val (.str (tx q))), none, none] st := by
          generalize hM : p ++ 44 :: q = M at *
          simp +decide [b_l_due_1, gs, pn, hms, -gSl]
        have e1 := l_end_eq a 91 p (if a = 40 then 1 else 0) lp st
        have e2 := l_end_eq t 93 q (if t = 93 then 1 else 0) lq st
        rw [endV_lo hb.1] at e1
        rw [endV_hi hb.2] at e2
        have t2 : b_l_due_2 [some (.val (.str L)), some (.val (.str (tx p))), some (.val (.str (tx [44]))), some (.val (.str (tx q))), none, none] st = .nx [some (.val (.str L)), some (.val (.str (tx p))), some (.val (.str (tx [44]))), some (.val (.str (tx q))), some (.own (loV (rdE a p 91))), none] st := by
          generalize (loV (rdE a p 91)) = E1 at *
          have hb1 := hb.1
          obtain rfl | rfl := hb1 <;> simp +decide at e1 <;> simp +decide [b_l_due_2, g0, e1, -gIx]
        have t3 : ∀ E1, b_l_due_3 [some (.val (.str L)), some (.val (.str (tx p))), some (.val (.str (tx [44]))), some (.val (.str (tx q))), some (.own E1), none] st = .nx [some (.val (.str L)), some (.val (.str (tx p))), some (.val (.str (tx [44]))), some (.val (.str (tx q))), some (.own E1), some (.own (hiV (rdE t q 93)))] st := by
          intro E1
          generalize (hiV (rdE t q 93)) = E2 at *
          have hb2 := hb.2
          obtain rfl | rfl := hb2 <;> simp +decide at e2 <;> simp +decide [b_l_due_3, g1, e2, -gIx]
        unfold d_l_due dFun
        show finO (dSeq b_l_due_0 _ [some (.val (.str L)), none, none, none, none, none] st) = _
        rw [seq_nx t0, seq_nx t1, seq_nx t2, seq_nx (t3 _)]
        clear t0 t1 t2 t3 e1 e2
        simp only
        cases rdE a p 91 with
        | none =>
          cases rdE t q 93 <;> simp +decide [b_l_due_4, gEq, dat, dueV, loV, hiV]
        | some e =>
          cases rdE t q 93 with
          | none => simp +decide [b_l_due_4, gEq, dat, dueV, loV, hiV]
          | some f =>
            simp only [loV, hiV]
            unfold spT
            generalize loE e = A at *
            generalize hiE f = B at *
            cases A with
            | none => cases B <;> simp +decide [b_l_due_4, b_l_due_5, b_l_due_6, gEq, dat, dueV, loV, hiV, lt2, oi]
            | some x =>
              cases B with
              | none => simp +decide [b_l_due_4, b_l_due_5, b_l_due_6, gEq, dat, dueV, loV, hiV, lt2, oi]
              | some y =>
                by_cases c : x < y
                · have c2 : ¬ y ≤ x := by omega
                  simp +decide [b_l_due_4, b_l_due_5, b_l_due_6, gEq, dat, dueV, loV, hiV, lt2, oi, c, c2]
                · have c2 : y ≤ x := by omega
                  simp +decide [b_l_due_4, b_l_due_5, b_l_due_6, gEq, dat, dueV, loV, hiV, lt2, oi, c, c2]
    · rw [if_neg hb]
      generalize hL : tx (a :: (m ++ [t])) = L at *
      by_cases ha : a = 91 ∨ a = 40
      · have ht : ¬ (t = 93 ∨ t = 41) := fun z => hb ⟨ha, z⟩
        obtain ⟨ht1, ht2⟩ := not_or.mp ht
        have ht1' : ¬ 93 = t := fun z => ht1 z.symm
        have ht2' : ¬ 41 = t := fun z => ht2 z.symm
        rcases ha with rfl | rfl <;> simp +decide [d_l_due, b_l_due_0, gl, i, g0, g1, dueV, ht1, ht2, ht1', ht2', -gIx, -gNotInS, -gLen]
      · obtain ⟨ht1, ht2⟩ := not_or.mp ha
        have ht1' : ¬ 91 = a := fun z => ht1 z.symm
        have ht2' : ¬ 40 = a := fun z => ht2 z.symm
        simp +decide [d_l_due, b_l_due_0, gl, i, g0, g1, dueV, ht1, ht2, ht1', ht2', -gIx, -gNotInS, -gLen]
/-- _law_told -/
def numV : Option Int → Val
  | some n => .int n
  | none => .str (tx [78, 111, 84, 101, 120, 116])
theorem told_span (l : List Nat) (hl : l.length ≤ 600) (st : Store) : ∃ ex, d_l_told [.val (.str (tx l)), .val (.bl true)] st = .ok (.val (dueV (rdS l))) (st ++ ex) := by
  obtain ⟨ex, r⟩ := read_span_eq l hl st
  refine ⟨ex, ?_⟩
  cases e : rdS l with
  | no =>
    rw [e] at r
    simp only [outS] at r
    simp +decide [d_l_told, b_l_told_0, b_l_told_1, b_l_told_2, b_l_told_3, r, subc, isE, dueV, gEq, dat, eqv]
  | em =>
    rw [e] at r
    simp only [outS] at r
    simp +decide [d_l_told, b_l_told_0, b_l_told_1, b_l_told_2, b_l_told_3, b_l_told_4, r, subc, isE, dueV, gEq, dat, eqv]
  | sp lo hi =>
    rw [e] at r
    simp only [outS] at r
    simp +decide [d_l_told, b_l_told_0, b_l_told_1, b_l_told_2, b_l_told_3, b_l_told_4, b_l_told_5, r, dueV, gEq, dat, eqv]
theorem told_num (l : List Nat) (hl : l.length ≤ 600) (st : Store) : d_l_told [.val (.str (tx l)), .val (.bl false)] st = .ok (.val (numV (rdN l))) st := by
  have r := read_number_eq l hl st
  cases e : rdN l with
  | none =>
    rw [e] at r
    simp only [outN] at r
    simp +decide [d_l_told, b_l_told_0, b_l_told_1, b_l_told_2, b_l_told_3, r, subc, isE, numV, gEq, dat, eqv]
  | some n =>
    rw [e] at r
    simp only [outN] at r
    simp +decide [d_l_told, b_l_told_0, b_l_told_1, b_l_told_2, b_l_told_3, b_l_told_4, b_l_told_5, r, numV, gEq, dat, eqv]
theorem told_no (v : Val) (h : isB "str" v = some false) (b : Bool) (st : Store) : d_l_told [.val v, .val (.bl b)] st = .ok (.val (numV none)) st := by
  have r1 := read_span_no v h st
  have r2 := read_number_no v h st
  cases b <;> simp +decide [d_l_told, b_l_told_0, b_l_told_1, b_l_told_2, b_l_told_3, r1, r2, subc, isE, numV, gEq, dat, eqv]
/-! a text with one sign put in, put in the place of one, or left out -/
/-- as T, but for one sign (none of the figure nine) -/
def Spoil (T l : List Nat) : Prop := l = T ∨ ∃ k c, k ≤ T.length ∧ c ≠ 57 ∧ (l = T.take k ++ c :: T.drop k ∨ l = T.take k ++ c :: T.drop (k + 1) ∨ l = T.take k ++ T.drop (k + 1))
/-- sixty nines in a row -/
abbrev n60 : List Nat := List.replicate 60 57
def R60 (l : List Nat) : Prop := ∃ a b, l = a ++ (n60 ++ b)
theorem r60_len {l : List Nat} (h : R60 l) : 60 ≤ l.length := by
  obtain ⟨a, b, rfl⟩ := h
  simp [n60]
  omega
theorem r60_split {x y : List Nat} {c : Nat} (hc : c ≠ 57) (h : R60 (x ++ c :: y)) : R60 x ∨ R60 y := by
  obtain ⟨a, b, e⟩ := h
  rcases List.append_eq_append_iff.mp e with ⟨d, e1, e2⟩ | ⟨d, e1, e2⟩
  · -- a = x ++ d
    cases d with
    | nil =>
      simp [n60, List.replicate_succ] at e2
      exact absurd e2.1 hc
    | cons z d =>
      simp at e2
      exact .inr ⟨d, b, e2.2⟩
  · -- x = a ++ d
    rcases List.append_eq_append_iff.mp e2 with ⟨f, e3, e4⟩ | ⟨f, e3, e4⟩
    · -- d = n60 ++ f
      refine .inl ⟨a, f, ?_⟩
      rw [e1, e3]
    · -- n60 = d ++ f
      cases f with
      | nil =>
        refine .inl ⟨a, [], ?_⟩
        rw [e1, e3]
        simp
      | cons z f =>
        have z57 : z = 57 := by
          have : z ∈ n60 := by rw [e3]; simp
          exact (List.mem_replicate.mp this).2
        simp at e4
        exact absurd (e4.1.trans z57) hc
theorem r60_sub {x y a b : List Nat} (h : R60 y) (e : x = a ++ (y ++ b)) : R60 x := by
  obtain ⟨c, d, rfl⟩ := h
  exact ⟨a ++ c, d ++ b, by rw [e]; simp⟩
theorem no60 {h t : Nat} {w v l : List Nat} (hh : h ≠ 57) (ht : t ≠ 57) (hw : w.length ≤ 59) (hv : v.length ≤ 59) (fw : 44 ∉ w) (fv : 44 ∉ v) (h4 : h ≠ 44) (t4 : t ≠ 44)
    (s : Spoil (h :: (w ++ 44 :: (v ++ [t]))) l) (hm : 44 ∈ l) : ¬ R60 l := by
  have nw : ∀ z : List Nat, z.length ≤ 59 → ¬ R60 z := fun z hz r => by have := r60_len r; omega
  have nU : ¬ R60 (h :: w) := fun r => by
    rcases r60_split (x := []) hh r with r | r
    · exact nw _ (by simp) r
    · exact nw _ hw r
  have nV : ¬ R60 (v ++ [t]) := fun r => by
    rcases r60_split (x := v) (y := []) ht r with r | r
    · exact nw _ hv r
    · exact nw _ (by simp) r
  have nT : ¬ R60 (h :: (w ++ 44 :: (v ++ [t]))) := fun r => by
    rcases r60_split (x := h :: w) (c := 44) (by decide) r with r | r
    · exact nU r
    · exact nV r
  rcases s with rfl | ⟨k, c, hk, hc, e⟩
  · exact nT
  · have tk : h :: (w ++ 44 :: (v ++ [t])) = (h :: (w ++ 44 :: (v ++ [t]))).take k ++ (h :: (w ++ 44 :: (v ++ [t]))).drop k := (List.take_append_drop k _).symm
    have n1 : ¬ R60 ((h :: (w ++ 44 :: (v ++ [t]))).take k) := fun r => nT (r60_sub (a := []) r tk)
    have n2 : ¬ R60 ((h :: (w ++ 44 :: (v ++ [t]))).drop k) := fun r => nT (r60_sub (b := []) r (by rw [List.append_nil]; exact tk))
    have n3 : ¬ R60 ((h :: (w ++ 44 :: (v ++ [t]))).drop (k + 1)) := fun r => n2 (by
      cases e2 : (h :: (w ++ 44 :: (v ++ [t]))).drop k with
      | nil =>
        rw [← List.drop_drop, e2] at r
        have := r60_len r
        simp at this
      | cons z y =>
        rw [← List.drop_drop, e2] at r
        exact r60_sub (a := [z]) (b := []) r (by simp))
    rcases e with e | e | e
    · rw [e]; intro r
      rcases r60_split hc r with r | r
      · exact n1 r
      · exact n2 r
    · rw [e]; intro r
      rcases r60_split hc r with r | r
      · exact n1 r
      · exact n3 r
    · -- one left out
      by_cases hk2 : k < (h :: (w ++ 44 :: (v ++ [t]))).length
      · have el := List.take_append_drop k (h :: (w ++ 44 :: (v ++ [t])))
        rw [List.drop_eq_getElem_cons hk2] at el
        generalize (h :: (w ++ 44 :: (v ++ [t])))[k] = x at el
        generalize (h :: (w ++ 44 :: (v ++ [t]))).take k = A at *
        generalize (h :: (w ++ 44 :: (v ++ [t]))).drop (k + 1) = B at *
        have el2 : A ++ x :: B = (h :: w) ++ 44 :: (v ++ [t]) := by simpa using el
        rw [e] at hm ⊢
        rcases List.append_eq_append_iff.mp el2 with ⟨d, e1, e2⟩ | ⟨d, e1, e2⟩
        · -- h :: w = A ++ d, x :: B = d ++ 44 :: V
          cases d with
          | nil =>
            simp at e1 e2
            rw [← e1, e2.2] at hm
            simp [fw, fv, h4.symm, t4.symm] at hm
          | cons z d =>
            simp at e2
            rw [e2.2, ← List.append_assoc]
            intro r
            have le : (A ++ d).length ≤ 59 := by
              have := congrArg List.length e1
              simp at this ⊢
              omega
            rcases r60_split (c := 44) (by decide) r with r | r
            · exact nw _ le r
            · exact nV r
        · -- A = h :: w ++ d, 44 :: V = d ++ x :: B
          cases d with
          | nil =>
            simp at e1 e2
            rw [e1, ← e2.2] at hm
            simp [fw, fv, h4.symm, t4.symm] at hm
          | cons z d =>
            simp at e2
            rw [e1, ← e2.1]
            intro r
            have r' : R60 ((h :: w) ++ 44 :: (d ++ B)) := by simpa using r
            have le : (d ++ B).length ≤ 59 := by
              have := congrArg List.length e2.2
              simp at this ⊢
              omega
            rcases r60_split (c := 44) (by decide) r' with r | r
            · exact nU r
            · exact nw _ le r
      · have e2 : (h :: (w ++ 44 :: (v ++ [t]))).take k = h :: (w ++ 44 :: (v ++ [t])) := List.take_of_length_le (by omega)
        have e3 : (h :: (w ++ 44 :: (v ++ [t]))).drop (k + 1) = [] := List.drop_eq_nil_of_le (by omega)
        rw [e2, e3, List.append_nil] at e
        rw [e]; exact nT
/-! the value of figures -/
theorem val_snoc (l : List Nat) (c : Nat) : NumText.digitsVal (l ++ [c]) = NumText.digitsVal l * 10 + (c - 48) := NumText.digitsVal_snoc l c
theorem snoc_ind {P : List Nat → Prop} (h0 : P []) (h1 : ∀ l c, P l → P (l ++ [c])) : ∀ l, P l := fun l => by
  have : ∀ r : List Nat, P r.reverse := fun r => by
    induction r with
    | nil => exact h0
    | cons a r ih => rw [List.reverse_cons]; exact h1 _ _ ih
  have := this l.reverse
  rwa [List.reverse_reverse] at this
theorem val_lt (l : List Nat) : l.all dig = true → NumText.digitsVal l < 10 ^ l.length ∧ (NumText.digitsVal l + 1 = 10 ^ l.length → l = List.replicate l.length 57) := by
  refine snoc_ind (P := fun l => l.all dig = true → NumText.digitsVal l < 10 ^ l.length ∧ (NumText.digitsVal l + 1 = 10 ^ l.length → l = List.replicate l.length 57)) ?_ ?_ l
  · intro _
    exact ⟨by decide, fun _ => rfl⟩
  · intro l c ih h
    rw [List.all_append, Bool.and_eq_true] at h
    obtain ⟨i1, i2⟩ := ih h.1
    have hc : 48 ≤ c ∧ c < 58 := by
      have := h.2
      simp [dig] at this
      exact this
    rw [val_snoc, List.length_append, List.length_singleton, Nat.pow_succ]
    refine ⟨by omega, fun e => ?_⟩
    have c9 : c = 57 := by omega
    rw [List.replicate_succ', ← i2 (by omega), c9]
theorem valL_lt {l : List Nat} (h : numB l = true) : (valL l).natAbs < 10 ^ 60 := by
  unfold numB at h
  simp only [Bool.and_eq_true, decide_eq_true_eq] at h
  obtain ⟨⟨⟨_, h2⟩, h3⟩, _⟩ := h
  obtain ⟨v, _⟩ := val_lt _ h3
  have : (10 : Nat) ^ (figL l).length ≤ 10 ^ 60 := Nat.pow_le_pow_right (by decide) h2
  have v2 : NumText.digitsVal (figL l) < 10 ^ 60 := Nat.lt_of_lt_of_le v this
  unfold figL at v2
  unfold valL
  split <;> rename_i q <;> simp only [q, if_true, if_false] at v2 <;> omega
theorem rdN_lt {l : List Nat} {n : Int} (h : rdN l = some n) : n.natAbs < 10 ^ 60 := by
  unfold rdN at h
  split at h
  · rename_i q
    cases h
    exact valL_lt q
  · cases h
theorem valL_lt1 {l : List Nat} (h : numB l = true) (n : ¬ R60 l) : (valL l).natAbs + 1 < 10 ^ 60 := by
  unfold numB at h
  simp only [Bool.and_eq_true, decide_eq_true_eq] at h
  obtain ⟨⟨⟨_, h2⟩, h3⟩, _⟩ := h
  obtain ⟨v, u⟩ := val_lt _ h3
  have nf : ¬ R60 (figL l) := fun r => n (by
    unfold figL at r
    split at r
    · refine r60_sub (a := l.take 1) (b := []) r ?_
      rw [List.append_nil, List.take_append_drop]
    · exact r)
  have v2 : NumText.digitsVal (figL l) + 1 < 10 ^ 60 := by
    by_cases e : (figL l).length = 60
    · rw [e] at v u
      have : NumText.digitsVal (figL l) + 1 ≠ 10 ^ 60 := fun z => nf ⟨[], [], by rw [List.nil_append, List.append_nil]; exact u z⟩
      omega
    · have : (10 : Nat) ^ (figL l).length ≤ 10 ^ 59 := Nat.pow_le_pow_right (by decide) (by omega)
      have : (10 : Nat) ^ 59 * 10 = 10 ^ 60 := rfl
      have : (10 : Nat) ^ 59 > 1 := by decide
      omega
  unfold figL at v2
  unfold valL
  split <;> rename_i q <;> simp only [q, if_true, if_false] at v2 <;> omega
theorem rdN_lt1 {l : List Nat} {n : Int} (h : rdN l = some n) (q : ¬ R60 l) : n.natAbs + 1 < 10 ^ 60 := by
  unfold rdN at h
  split at h
  · rename_i z
    cases h
    exact valL_lt1 z q
  · cases h
/-- the ends of a text without sixty nines in a row -/
theorem rdE_sm {br sh : Nat} {w : List Nat} {e : Int × Int} (h : rdE br w sh = some e) (q : ¬ R60 w) : SmO 60 (loE e) ∧ SmO 60 (hiE e) := by
  unfold rdE at h
  split at h
  · cases h; exact ⟨fun a z => (by cases z), fun a z => (by cases z)⟩
  · cases e2 : rdN w with
    | none => rw [e2] at h; cases h
    | some p =>
      rw [e2] at h
      have := Option.some.inj h
      subst this
      have := rdN_lt1 e2 q
      refine ⟨fun a z => ?_, fun a z => ?_⟩
      · by_cases k : br = sh <;> simp [k, loE] at z <;> omega
      · by_cases k : br = sh <;> simp [k, hiE] at z <;> omega
theorem rdS_sm {l : List Nat} {lo hi : Option Int} (h : rdS l = .sp lo hi) (q : ¬ R60 l) : SmO 60 lo ∧ SmO 60 hi ∧ lt2 lo hi = true := by
  by_cases h2 : l.length < 2
  · unfold rdS at h; rw [if_pos h2] at h; cases h
  · obtain ⟨a, m, t, rfl⟩ := two_form h2
    rw [rdS_form] at h
    unfold rdS3 at h
    split at h
    · rcases cut1_ex 44 m with ⟨_, hc⟩ | ⟨p, r, rfl, _, hc⟩
      · rw [hc] at h; cases h
      · rw [hc] at h
        simp only at h
        cases e1 : rdE a p 91 with
        | none => rw [e1] at h; cases h
        | some e =>
          cases e2 : rdE t r 93 with
          | none => rw [e1, e2] at h; cases h
          | some f =>
            rw [e1, e2] at h
            simp only at h
            have q1 : ¬ R60 p := fun z => q (r60_sub (a := [a]) (b := 44 :: (r ++ [t])) z (by simp))
            have q2 : ¬ R60 r := fun z => q (r60_sub (a := a :: (p ++ [44])) (b := [t]) z (by simp))
            unfold spT at h
            split at h
            · rename_i ok
              cases h
              exact ⟨(rdE_sm e1 q1).1, (rdE_sm e2 q2).2, ok⟩
            · cases h
    · cases h
theorem rdS_mem {l : List Nat} {lo hi : Option Int} (h : rdS l = .sp lo hi) : 44 ∈ l := by
  by_cases h2 : l.length < 2
  · unfold rdS at h; rw [if_pos h2] at h; cases h
  · obtain ⟨a, m, t, rfl⟩ := two_form h2
    rw [rdS_form] at h
    unfold rdS3 at h
    split at h
    · rcases cut1_ex 44 m with ⟨_, hc⟩ | ⟨p, r, rfl, _, hc⟩
      · rw [hc] at h; cases h
      · simp
    · cases h
theorem rdE_sm100 {br sh : Nat} {w : List Nat} {e : Int × Int} (h : rdE br w sh = some e) : SmO 100 (loE e) ∧ SmO 100 (hiE e) := by
  unfold rdE at h
  split at h
  · cases h; exact ⟨fun a z => (by cases z), fun a z => (by cases z)⟩
  · cases e2 : rdN w with
    | none => rw [e2] at h; cases h
    | some p =>
      rw [e2] at h
      have := Option.some.inj h
      subst this
      have := rdN_lt e2
      have : (10 : Nat) ^ 60 + 1 < 10 ^ 100 := by decide +kernel
      refine ⟨fun a z => ?_, fun a z => ?_⟩
      · by_cases k : br = sh <;> simp [k, loE] at z <;> omega
      · by_cases k : br = sh <;> simp [k, hiE] at z <;> omega
theorem rdS_sm100 {l : List Nat} {lo hi : Option Int} (h : rdS l = .sp lo hi) : SmO 100 lo ∧ SmO 100 hi := by
  by_cases h2 : l.length < 2
  · unfold rdS at h; rw [if_pos h2] at h; cases h
  · obtain ⟨a, m, t, rfl⟩ := two_form h2
    rw [rdS_form] at h
    unfold rdS3 at h
    split at h
    · rcases cut1_ex 44 m with ⟨_, hc⟩ | ⟨p, r, rfl, _, hc⟩
      · rw [hc] at h; cases h
      · rw [hc] at h
        simp only at h
        cases e1 : rdE a p 91 with
        | none => rw [e1] at h; cases h
        | some e =>
          cases e2 : rdE t r 93 with
          | none => rw [e1, e2] at h; cases h
          | some f =>
            rw [e1, e2] at h
            simp only at h
            unfold spT at h
            split at h
            · cases h
              exact ⟨(rdE_sm100 e1).1, (rdE_sm100 e2).2⟩
            · cases h
    · cases h
/-- _law_word -/
def z60 : List Nat := List.replicate 60 48
def z59 : List Nat := List.replicate 59 48
def odds : List (List Nat) := [[48, 48, 55], [45, 48], [43, 51], [32, 51], [51, 32], [], [45], 49 :: z60, 45 :: 49 :: z59, [48, 48], [46], [46, 46, 46], [45, 48, 51], [49, 95, 48]]
theorem odds_ok : ∀ w ∈ odds, w.length ≤ 61 ∧ 44 ∉ w := by decide +kernel
theorem odds_at (x : Int) : ∃ w, w ∈ odds ∧ atI (odds.map fun w => Val.str (tx w)) (x % 14) = some (.str (tx w)) := by
  obtain ⟨k, a, e1, e2, e3⟩ := at_mod (f := fun w => Val.str (tx w)) (l := odds) x (by decide)
  exact ⟨a, List.mem_of_getElem? e2, e3⟩
theorem mul60 : gMulS (.str (tx [48])) (.int 60) = some (.val (.str (tx z60))) := by
  have e : (List.replicate ((60 : Int).toNat) (tx [48]).cps.toList).flatten = z60 := by decide +kernel
  have h : 1 ≤ (tx [48]).length ∧ (tx [48]).length ≤ 1000 ∧ (2 : Int) ≤ 60 ∧ (60 : Int) ≤ 1000 := by
    rw [tx_len]
    exact ⟨by decide, by decide, by decide, by decide⟩
  simp only [gMulS]
  rw [if_pos h, e]
  rfl
theorem mul59 : gMulS (.str (tx [48])) (.int 59) = some (.val (.str (tx z59))) := by
  have e : (List.replicate ((59 : Int).toNat) (tx [48]).cps.toList).flatten = z59 := by decide +kernel
  have h : 1 ≤ (tx [48]).length ∧ (tx [48]).length ≤ 1000 ∧ (2 : Int) ≤ 59 ∧ (59 : Int) ≤ 1000 := by
    rw [tx_len]
    exact ⟨by decide, by decide, by decide, by decide⟩
  simp only [gMulS]
  rw [if_pos h, e]
  rfl
@[simp] theorem lit_o1 : Str.ofString "007" = tx [48, 48, 55] := by decide +kernel
@[simp] theorem lit_o2 : Str.ofString "-0" = tx [45, 48] := by decide +kernel
@[simp] theorem lit_o3 : Str.ofString "+3" = tx [43, 51] := by decide +kernel
@[simp] theorem lit_o4 : Str.ofString " 3" = tx [32, 51] := by decide +kernel
@[simp] theorem lit_o5 : Str.ofString "3 " = tx [51, 32] := by decide +kernel
@[simp] theorem lit_o6 : Str.ofString "1" = tx [49] := by decide +kernel
@[simp] theorem lit_o7 : Str.ofString "-1" = tx [45, 49] := by decide +kernel
@[simp] theorem lit_o8 : Str.ofString "00" = tx [48, 48] := by decide +kernel
@[simp] theorem lit_o9 : Str.ofString "." = tx [46] := by decide +kernel
@[simp] theorem lit_o10 : Str.ofString "..." = tx [46, 46, 46] := by decide +kernel
@[simp] theorem lit_o11 : Str.ofString "-03" = tx [45, 48, 51] := by decide +kernel
@[simp] theorem lit_o12 : Str.ofString "1_0" = tx [49, 95, 48] := by decide +kernel
theorem z60_len : z60.length = 60 := by decide
theorem z59_len : z59.length = 59 := by decide
theorem word_odd (c n : Int) (h1 : ¬ c % 8 = 1) (h2 : c % 8 = 2) (st : Store) : ∃ w, d_l_word [.val (.int c), .val (.int n)] st = .ok (.val (.str (tx w))) st ∧ w.length ≤ 61 ∧ 44 ∉ w := by
  obtain ⟨w, hw, e⟩ := odds_at (c / 8)
  refine ⟨w, ?_, (odds_ok w hw).1, (odds_ok w hw).2⟩
  clear hw
  have m6 := mul60
  have m5 := mul59
  have s6 := size_600 (show z60.length + 1 ≤ 600 by rw [z60_len]; decide)
  have s5 := size_600 (show z59.length + 2 ≤ 600 by rw [z59_len]; decide)
  simp only [odds, List.map_cons, List.map_nil] at e
  generalize z60 = Z6 at *
  generalize z59 = Z5 at *
  simp +decide [d_l_word, b_l_word_0, b_l_word_1, h1, h2, m6, m5, s6, s5, e, -gMulS, -at_mod2, -at_mod3, Nat.add_comm]
  all_goals simp +decide [Nat.add_comm, s6, s5, e]
theorem word_eq (c n : Int) (hn : n.natAbs < 10 ^ 60) (st : Store) : ∃ w, d_l_word [.val (.int c), .val (.int n)] st = .ok (.val (.str (tx w))) st ∧ w.length ≤ 61 ∧ 44 ∉ w := by
  by_cases h1 : c % 8 = 1
  · exact ⟨[46, 46], by simp +decide [d_l_word, b_l_word_0, h1], by decide, by decide⟩
  · by_cases h2 : c % 8 = 2
    · exact word_odd c n h1 h2 st
    · refine ⟨numI n, ?_, numI_len hn, numI_free (.inl (by decide))⟩
      have := sm_str (Nat.lt_of_lt_of_le hn (by decide +kernel))
      simp +decide [d_l_word, b_l_word_0, b_l_word_1, b_l_word_2, h1, h2, this, -gStr]
/-- _law_spoilt -/
abbrev SGN : Str := "[](),.-0123 =;+a/\n~"
theorem sgn_ok : ∀ c ∈ SGN.cps.toList, c ≠ 57 := by decide +kernel
theorem sgn_len : SGN.cps.toList.length = 19 := by decide +kernel
theorem sgn_at (x : Int) : ∃ c, c ≠ 57 ∧ gIx (.str SGN) (.int (x % 19)) = some (.val (.str (tx [c]))) := by
  obtain ⟨k, hk⟩ := Int.eq_ofNat_of_zero_le (show 0 ≤ x % 19 by omega)
  have hk2 : k < SGN.cps.toList.length := by rw [sgn_len]; omega
  refine ⟨SGN.cps.toList[k], sgn_ok _ (List.getElem_mem _), ?_⟩
  have hl : SGN.length ≤ sizeLine := by rw [sizeLine_eq]; decide +kernel
  show (if SGN.length ≤ sizeLine then (atI SGN.cps.toList (x % 19)).map fun c => R.val (.str ⟨#[c]⟩) else none) = _
  rw [if_pos hl, hk, atI_ofNat, List.getElem?_eq_getElem hk2]
  rfl
theorem sgn_gl : gLen [.str SGN] = some (.val (.int 19)) := by
  have hl : SGN.length = 19 := by decide +kernel
  have hs : SGN.length ≤ sizeLine := by rw [sizeLine_eq]; decide +kernel
  simp only [gLen, hl]
  rw [hl] at hs
  simp [hs]
theorem spoilt_eq (T : List Nat) (hT : T.length ≤ 500) (c : Int) (st : Store) : ∃ l, d_l_spoilt [.val (.str (tx T)), .val (.int c)] st = .ok (.val (.str (tx l))) st ∧ Spoil T l ∧ l.length ≤ 501 := by
  obtain ⟨s, hs9, es⟩ := sgn_at (c / 12)
  have gl := sgn_gl
  have hs := size_600 (show T.length ≤ 600 by omega)
  obtain ⟨k, hk⟩ := Int.eq_ofNat_of_zero_le (show 0 ≤ c / 240 % ((T.length : Int) + 1) from Int.emod_nonneg _ (by omega))
  have hk2 : k ≤ T.length := by
    have := Int.emod_lt_of_pos (c / 240) (show (0 : Int) < (T.length : Int) + 1 by omega)
    omega
  have kp : (0 : Int) < (T.length : Int) + 1 := by omega
  have t0 : b_l_spoilt_0 [some (.val (.str (tx T))), some (.val (.int c)), none, none, none] st = .nx [some (.val (.str (tx T))), some (.val (.int c)), some (.val (.str SGN)), none, none] st := by
    simp [b_l_spoilt_0]
  have t1 : b_l_spoilt_1 [some (.val (.str (tx T))), some (.val (.int c)), some (.val (.str SGN)), none, none] st = .nx [some (.val (.str (tx T))), some (.val (.int c)), some (.val (.str SGN)), some (.val (.str (tx [s]))), none] st := by
    simp +decide [b_l_spoilt_1, gl, es, -gIx, -gLen]
  have t2 : b_l_spoilt_2 [some (.val (.str (tx T))), some (.val (.int c)), some (.val (.str SGN)), some (.val (.str (tx [s]))), none] st = .nx [some (.val (.str (tx T))), some (.val (.int c)), some (.val (.str SGN)), some (.val (.str (tx [s]))), some (.val (.int k))] st := by
    simp +decide [b_l_spoilt_2, hs, kp, hk]
  have c1 := tx_to T k
  have c2 := tx_from T k
  have c3 := tx_from T (k + 1)
  rw [show ((k + 1 : Nat) : Int) = (k : Int) + 1 by omega] at c3
  have s1 := size_600 (show (T.take k).length + 1 ≤ 600 by rw [List.length_take]; omega)
  have s2 := size_600 (show (T.take k).length + 1 + (T.drop k).length ≤ 600 by rw [List.length_take, List.length_drop]; omega)
  have s3 := size_600 (show (T.take k).length + 1 + (T.drop (k + 1)).length ≤ 600 by rw [List.length_take, List.length_drop]; omega)
  have s4 := size_600 (show (T.take k).length + (T.drop (k + 1)).length ≤ 600 by rw [List.length_take, List.length_drop]; omega)
  have g1 : gSl (.str (tx T)) none (some (k : Int)) = some (.val (.str (tx (T.take k)))) := by simp only [gSl, tx_len, hs, if_true, c1]
  have g2 : gSl (.str (tx T)) (some (k : Int)) none = some (.val (.str (tx (T.drop k)))) := by simp only [gSl, tx_len, hs, if_true, c2]
  have g3 : gSl (.str (tx T)) (some ((k : Int) + 1)) none = some (.val (.str (tx (T.drop (k + 1))))) := by simp only [gSl, tx_len, hs, if_true, c3]
  have L1 : (T.take k ++ s :: T.drop k).length ≤ 501 := by simp; omega
  have L2 : (T.take k ++ s :: T.drop (k + 1)).length ≤ 501 := by simp; omega
  have L3 : (T.take k ++ T.drop (k + 1)).length ≤ 501 := by simp; omega
  have P1 : Spoil T (T.take k ++ s :: T.drop k) := .inr ⟨k, s, hk2, hs9, .inl rfl⟩
  have P2 : Spoil T (T.take k ++ s :: T.drop (k + 1)) := .inr ⟨k, s, hk2, hs9, .inr (.inl rfl)⟩
  have P3 : Spoil T (T.take k ++ T.drop (k + 1)) := .inr ⟨k, s, hk2, hs9, .inr (.inr rfl)⟩
  unfold d_l_spoilt dFun
  show ∃ l, finO (dSeq b_l_spoilt_0 _ [some (.val (.str (tx T))), some (.val (.int c)), none, none, none] st) = _ ∧ _
  rw [seq_nx t0, seq_nx t1, seq_nx t2]
  clear t0 t1 t2 c1 c2 c3
  by_cases h1 : c % 12 = 1
  · refine ⟨_, ?_, P1, L1⟩
    generalize T.take k = A at *
    generalize T.drop k = B at *
    generalize T.drop (k + 1) = D at *
    simp +decide [b_l_spoilt_3, h1, g1, g2, s1, s2, -gSl]
  · by_cases h2 : c % 12 = 2
    · refine ⟨_, ?_, P2, L2⟩
      generalize T.take k = A at *
      generalize T.drop k = B at *
      generalize T.drop (k + 1) = D at *
      simp +decide [b_l_spoilt_3, b_l_spoilt_4, h1, h2, g1, g3, s1, s3, -gSl]
    · by_cases h3 : c % 12 = 3 ∨ c % 12 = 4
      · refine ⟨_, ?_, P3, L3⟩
        generalize T.take k = A at *
        generalize T.drop k = B at *
        generalize T.drop (k + 1) = D at *
        rcases h3 with h3 | h3 <;> simp +decide [b_l_spoilt_3, b_l_spoilt_4, b_l_spoilt_5, h3, g1, g3, s4, -gSl]
      · obtain ⟨h3, h4⟩ := not_or.mp h3
        refine ⟨T, ?_, .inl rfl, by omega⟩
        simp +decide [b_l_spoilt_3, b_l_spoilt_4, b_l_spoilt_5, b_l_spoilt_6, h1, h2, h3, h4, -gSl]
theorem cell_at_eq (ns : List Int) (k : Nat) (st : Store) : d_l_cell_at [.val (.slst (ns.map Val.int)), .val (.int k)] st = .ok (.val (.int (cellAt ns k))) st := by
  simp only [d_l_cell_at, b_l_cell_at_0, b_l_cell_at_1]
  by_cases h : k < ns.length
  · simp [h, atI_map, atI_ofNat, cellAt]
  · simp [h, cellAt]
theorem cell_at_0 (ns : List Int) (st : Store) : d_l_cell_at [.val (.slst (ns.map Val.int)), .val (.int 0)] st = .ok (.val (.int (cellAt ns 0))) st := cell_at_eq ns 0 st
theorem cell_at_1 (ns : List Int) (st : Store) : d_l_cell_at [.val (.slst (ns.map Val.int)), .val (.int 1)] st = .ok (.val (.int (cellAt ns 1))) st := cell_at_eq ns 1 st
theorem cell_at_2 (ns : List Int) (st : Store) : d_l_cell_at [.val (.slst (ns.map Val.int)), .val (.int 2)] st = .ok (.val (.int (cellAt ns 2))) st := cell_at_eq ns 2 st
theorem cell_at_3 (ns : List Int) (st : Store) : d_l_cell_at [.val (.slst (ns.map Val.int)), .val (.int 3)] st = .ok (.val (.int (cellAt ns 3))) st := cell_at_eq ns 3 st
theorem cell_at_4 (ns : List Int) (st : Store) : d_l_cell_at [.val (.slst (ns.map Val.int)), .val (.int 4)] st = .ok (.val (.int (cellAt ns 4))) st := cell_at_eq ns 4 st
@[simp] theorem lit_cdr : Str.ofString ",..)" = tx [44, 46, 46, 41] := by decide +kernel
theorem l_shown_eq (lo hi : Option Int) (h : SmO 100 lo) (h' : SmO 100 hi) (st : Store) : d_l_shown [.val (.tup [oi lo, oi hi])] st = .ok (.val (.str (tx (shL lo hi)))) st := by
  have l1 := loL_len h
  have l2 := hiL_len h'
  have t0 : b_l_shown_0 [some (.val (.tup [oi lo, oi hi])), none] st = .nx [some (.val (.tup [oi lo, oi hi])), some (.val (.str (tx [40, 46, 46])))] st := by
    simp [b_l_shown_0]
  have t1 : b_l_shown_1 [some (.val (.tup [oi lo, oi hi])), some (.val (.str (tx [40, 46, 46])))] st = .nx [some (.val (.tup [oi lo, oi hi])), some (.val (.str (tx (loL lo))))] st := by
    cases lo with
    | none => simp [b_l_shown_1, loL, oi]
    | some a =>
      have := sm_str (h a rfl)
      have ll := numI_lenk (by decide) (h a rfl)
      have hs := size_600 (show (numI a).length + 1 ≤ 600 by omega)
      simp [b_l_shown_1, loL, oi, this, hs, -gStr, Nat.add_comm]
  unfold d_l_shown dFun
  show finO (dSeq b_l_shown_0 _ [some (.val (.tup [oi lo, oi hi])), none] st) = _
  rw [seq_nx t0, seq_nx t1]
  clear t0 t1
  unfold shL
  generalize loL lo = A at *
  have h1 := size_600 (show A.length + 1 ≤ 600 by omega)
  cases hi with
  | none =>
    have h4 := size_600 (show A.length + 4 ≤ 600 by omega)
    simp [b_l_shown_2, hiL, oi, h4]
  | some b =>
    have := sm_str (h' b rfl)
    have ll := numI_lenk (by decide) (h' b rfl)
    have h2 := size_600 (show A.length + 1 + (numI b).length ≤ 600 by omega)
    have h3 := size_600 (show A.length + 1 + (numI b).length + 1 ≤ 600 by omega)
    have h4 := size_600 (show A.length + ((numI b).length + 1) + 1 ≤ 600 by omega)
    simp [b_l_shown_2, b_l_shown_3, hiL, oi, this, h1, h2, h3, h4, -gStr]
theorem number_ex (c : Int) (hc : Bd 1048576 c) (st : Store) : ∃ p, d_l_number [.val (.int c)] st = .ok (.val (.int p)) st ∧ -(10 ^ 59) ≤ p ∧ p ≤ 10 ^ 59 := by
  haveI := BdC.of hc
  simp only [d_l_number, b_l_number_0, b_l_number_1]
  by_cases h1 : c % 3 = 0
  · refine ⟨c / 3 * (10 ^ 41 + 9) % (2 * 10 ^ 59 + 1) - 10 ^ 59, by simp +decide [h1], ?_, ?_⟩ <;> omega
  · refine ⟨c / 3 % 41 - 20, by simp +decide [h1], ?_, ?_⟩ <;> omega
theorem wstep (w : List Nat) (hw : w.length ≤ 600) (S0 S1 S2 S3 S5 S6 S7 S8 S9 S10 : Option Eg.Slot) (st : Store) :
    w_law_0 [S0, S1, S2, S3, some (.val (.str (tx w))), S5, S6, S7, S8, S9, S10] st = .nx [S0, S1, S2, S3, none, none, none, S7, S8, S9, S10] st := by
  have r := l_read_eq w hw st
  have t := told_num w hw st
  have wh : ∀ n : Int, d_l_whole [.val (.int n)] st = .ok (.val (.bl true)) st := fun n => by simp [d_l_whole, b_l_whole_0]
  cases e : rdN w with
  | none =>
    rw [e] at r t
    simp only [nuV, numV] at r t
    simp +decide [w_law_0, r, t]
  | some n =>
    rw [e] at r t
    simp only [nuV, numV] at r t
    simp +decide [w_law_0, r, t, wh]
theorem w2step (k : Int) (hk : k = 0 ∨ k = 1) (lo hi : Option Int) (S0 S1 S2 S3 S4 S7 S8 S10 : Option Eg.Slot) (st : Store) :
    w_law_1 [S0, S1, S2, S3, S4, some (.val (.tup [oi lo, oi hi])), some (.val (.tup [oi lo, oi hi])), S7, S8, some (.val (.int k)), S10] st = .nx [S0, S1, S2, S3, S4, some (.val (.tup [oi lo, oi hi])), some (.val (.tup [oi lo, oi hi])), S7, S8, none, S10] st := by
  have wh : ∀ n : Int, d_l_whole [.val (.int n)] st = .ok (.val (.bl true)) st := fun n => by simp [d_l_whole, b_l_whole_0]
  rcases hk with rfl | rfl
  · cases lo <;> simp +decide [w_law_1, oi, wh]
  · cases hi <;> simp +decide [w_law_1, oi, wh]
theorem rng2 : gRng [.int 2] = some [.int 0, .int 1] := by
  have g := gRng_one (n := 2) (by decide)
  simpa [List.range, List.range.loop] using g

theorem cell_at_5 (ns : List Int) (st : Store) : d_l_cell_at [.val (.slst (ns.map Val.int)), .val (.int 5)] st = .ok (.val (.int (cellAt ns 5))) st := cell_at_eq ns 5 st
theorem cell_at_6 (ns : List Int) (st : Store) : d_l_cell_at [.val (.slst (ns.map Val.int)), .val (.int 6)] st = .ok (.val (.int (cellAt ns 6))) st := cell_at_eq ns 6 st
theorem law_true (ns : List Int) (hl : ns.length ≤ 63) (hb : ∀ z ∈ ns, Builtin.Int.intBits z ≤ 1048576) : ∃ st, d_law [.val (.slst (ns.map Val.int))] [] = .ok (.val (.bl true)) st := by
  obtain ⟨p, hp, p1, p2⟩ := number_ex (cellAt ns 0) (bd_cell hb 0) []
  obtain ⟨q0, hq0, q01, q02⟩ := number_ex (cellAt ns 1) (bd_cell hb 1) []
  have pn : p.natAbs < 10 ^ 60 := by
    have : (10 : Int) ^ 59 < 10 ^ 60 := by decide +kernel
    omega
  have t0 : b_law_0 [some (.val (.slst (ns.map Val.int))), none, none, none, none, none, none, none, none, none, none] [] = .nx [some (.val (.slst (ns.map Val.int))), some (.val (.int p)), none, none, none, none, none, none, none, none, none] [] := by
    simp [b_law_0, cell_at_0, hp]
  have t1 : b_law_1 [some (.val (.slst (ns.map Val.int))), some (.val (.int p)), none, none, none, none, none, none, none, none, none] [] = .nx [some (.val (.slst (ns.map Val.int))), some (.val (.int p)), some (.val (.int q0)), none, none, none, none, none, none, none, none] [] := by
    simp [b_law_1, cell_at_1, hq0]
  obtain ⟨q, t2, qn⟩ : ∃ q, b_law_2 [some (.val (.slst (ns.map Val.int))), some (.val (.int p)), some (.val (.int q0)), none, none, none, none, none, none, none, none] [] = .nx [some (.val (.slst (ns.map Val.int))), some (.val (.int p)), some (.val (.int q)), none, none, none, none, none, none, none, none] [] ∧ q.natAbs < 10 ^ 60 := by
    by_cases h : cellAt ns 2 % 2 = 0
    · refine ⟨p + cellAt ns 2 / 2 % 19 - 9, by simp +decide [b_law_2, cell_at_2, h], ?_⟩
      have : (10 : Int) ^ 59 + 30 < 10 ^ 60 := by decide +kernel
      omega
    · refine ⟨q0, by simp +decide [b_law_2, cell_at_2, h], ?_⟩
      have : (10 : Int) ^ 59 < 10 ^ 60 := by decide +kernel
      omega
  obtain ⟨w, ew, lw, fw⟩ := word_eq (cellAt ns 3) p pn []
  obtain ⟨v, ev, lv, fv⟩ := word_eq (cellAt ns 4) q qn []
  have t3 : b_law_3 [some (.val (.slst (ns.map Val.int))), some (.val (.int p)), some (.val (.int q)), none, none, none, none, none, none, none, none] [] = .nx [some (.val (.slst (ns.map Val.int))), some (.val (.int p)), some (.val (.int q)), some (.own [.str (tx w), .str (tx v)]), none, none, none, none, none, none, none] [] := by
    simp [b_law_3, cell_at_3, cell_at_4, ew, ev]
  have ws := fun S0 S1 S2 S3 S5 S6 S7 S8 S9 S10 => wstep w (by omega) S0 S1 S2 S3 S5 S6 S7 S8 S9 S10 []
  have vs := fun S0 S1 S2 S3 S5 S6 S7 S8 S9 S10 => wstep v (by omega) S0 S1 S2 S3 S5 S6 S7 S8 S9 S10 []
  have t4 : b_law_4 [some (.val (.slst (ns.map Val.int))), some (.val (.int p)), some (.val (.int q)), some (.own [.str (tx w), .str (tx v)]), none, none, none, none, none, none, none] [] = .nx [some (.val (.slst (ns.map Val.int))), some (.val (.int p)), some (.val (.int q)), some (.own [.str (tx w), .str (tx v)]), none, none, none, none, none, none, none] [] := by
    simp [b_law_4, dForGo, ws, vs]
  obtain ⟨y, hy⟩ : ∃ y, y = cellAt ns 5 := ⟨_, rfl⟩
  have t5 : b_law_5 [some (.val (.slst (ns.map Val.int))), some (.val (.int p)), some (.val (.int q)), some (.own [.str (tx w), .str (tx v)]), none, none, none, none, none, none, none] [] = .nx [some (.val (.slst (ns.map Val.int))), some (.val (.int p)), some (.val (.int q)), some (.own [.str (tx w), .str (tx v)]), none, none, none, some (.val (.int y)), none, none, none] [] := by
    simp [b_law_5, cell_at_5, hy]
  clear hy
  have s1 := size_600 (show 1 + w.length ≤ 600 by omega)
  have s2 := size_600 (show 1 + w.length + 1 ≤ 600 by omega)
  have s3 := size_600 (show 1 + w.length + 1 + v.length ≤ 600 by omega)
  have s4 := size_600 (show 1 + w.length + 1 + v.length + 1 ≤ 600 by omega)
  obtain ⟨h, t, hh, ht, t6⟩ : ∃ h t, (h = 91 ∨ h = 40) ∧ (t = 93 ∨ t = 41) ∧ b_law_6 [some (.val (.slst (ns.map Val.int))), some (.val (.int p)), some (.val (.int q)), some (.own [.str (tx w), .str (tx v)]), none, none, none, some (.val (.int y)), none, none, none] [] = .nx [some (.val (.slst (ns.map Val.int))), some (.val (.int p)), some (.val (.int q)), some (.own [.str (tx w), .str (tx v)]), none, none, none, some (.val (.int y)), some (.val (.str (tx (h :: (w ++ 44 :: (v ++ [t])))))), none, none] [] := by
    rcases (show y % 2 = 0 ∨ y % 2 = 1 by omega) with a | a <;> rcases (show y / 2 % 2 = 0 ∨ y / 2 % 2 = 1 by omega) with b | b
    · exact ⟨91, 93, .inl rfl, .inl rfl, by simp +decide [b_law_6, a, b, Nat.add_comm, Nat.add_left_comm, s1, s2, s3, s4] at s1 s2 s3 s4 ⊢; simp +decide [s1, s2, s3, s4]⟩
    · exact ⟨91, 41, .inl rfl, .inr rfl, by simp +decide [b_law_6, a, b, Nat.add_comm, Nat.add_left_comm, s1, s2, s3, s4] at s1 s2 s3 s4 ⊢; simp +decide [s1, s2, s3, s4]⟩
    · exact ⟨40, 93, .inr rfl, .inl rfl, by simp +decide [b_law_6, a, b, Nat.add_comm, Nat.add_left_comm, s1, s2, s3, s4] at s1 s2 s3 s4 ⊢; simp +decide [s1, s2, s3, s4]⟩
    · exact ⟨40, 41, .inr rfl, .inr rfl, by simp +decide [b_law_6, a, b, Nat.add_comm, Nat.add_left_comm, s1, s2, s3, s4] at s1 s2 s3 s4 ⊢; simp +decide [s1, s2, s3, s4]⟩
  clear s1 s2 s3 s4
  obtain ⟨l, el, sl, ll⟩ := spoilt_eq (h :: (w ++ 44 :: (v ++ [t]))) (by simp; omega) (cellAt ns 6) []
  generalize hT : h :: (w ++ 44 :: (v ++ [t])) = T at *
  have t7 : b_law_7 [some (.val (.slst (ns.map Val.int))), some (.val (.int p)), some (.val (.int q)), some (.own [.str (tx w), .str (tx v)]), none, none, none, some (.val (.int y)), some (.val (.str (tx T))), none, none] [] = .nx [some (.val (.slst (ns.map Val.int))), some (.val (.int p)), some (.val (.int q)), some (.own [.str (tx w), .str (tx v)]), none, none, none, some (.val (.int y)), some (.val (.str (tx l))), none, none] [] := by
    simp [b_law_7, cell_at_6, el]
  unfold d_law dFun
  show ∃ st, finO (dSeq b_law_0 _ [some (.val (.slst (ns.map Val.int))), none, none, none, none, none, none, none, none, none, none] []) = _
  rw [seq_nx t0, seq_nx t1, seq_nx t2, seq_nx t3, seq_nx t4, seq_nx t5, seq_nx t6, seq_nx t7]
  clear t0 t1 t2 t3 t4 t5 t6 t7 hp hq0 ew ev el ws vs
  by_cases h8 : y / 4 % 20 = 7
  · refine ⟨[], ?_⟩
    have n1 := told_no .non is_str_non (decide (y / 240 % 2 = 0)) []
    have n2 := told_no (.int 7) (is_str_int 7) (decide (y / 240 % 2 = 0)) []
    have n3 := told_no (.lst [.str "[1,2)"]) (is_str_lst _) (decide (y / 240 % 2 = 0)) []
    simp only [numV] at n1 n2 n3
    rcases (show y / 80 % 3 = 0 ∨ y / 80 % 3 = 1 ∨ y / 80 % 3 = 2 by omega) with a | a | a <;> simp +decide [b_law_8, h8, a, n1, n2, n3]
  · have t8 : b_law_8 [some (.val (.slst (ns.map Val.int))), some (.val (.int p)), some (.val (.int q)), some (.own [.str (tx w), .str (tx v)]), none, none, none, some (.val (.int y)), some (.val (.str (tx l))), none, none] [] = .nx [some (.val (.slst (ns.map Val.int))), some (.val (.int p)), some (.val (.int q)), some (.own [.str (tx w), .str (tx v)]), none, none, none, some (.val (.int y)), some (.val (.str (tx l))), none, none] [] := by
      simp +decide [b_law_8, h8]
    have du := l_due_eq l (by omega) []
    obtain ⟨ex, tu⟩ := told_span l (by omega) []
    rw [List.nil_append] at tu
    rw [seq_nx t8]
    clear t8 h8
    have t9 : b_law_9 [some (.val (.slst (ns.map Val.int))), some (.val (.int p)), some (.val (.int q)), some (.own [.str (tx w), .str (tx v)]), none, none, none, some (.val (.int y)), some (.val (.str (tx l))), none, none] [] = .nx [some (.val (.slst (ns.map Val.int))), some (.val (.int p)), some (.val (.int q)), some (.own [.str (tx w), .str (tx v)]), none, some (.val (dueV (rdS l))), none, some (.val (.int y)), some (.val (.str (tx l))), none, none] [] := by
      simp [b_law_9, du]
    have t10 : b_law_10 [some (.val (.slst (ns.map Val.int))), some (.val (.int p)), some (.val (.int q)), some (.own [.str (tx w), .str (tx v)]), none, some (.val (dueV (rdS l))), none, some (.val (.int y)), some (.val (.str (tx l))), none, none] [] = .nx [some (.val (.slst (ns.map Val.int))), some (.val (.int p)), some (.val (.int q)), some (.own [.str (tx w), .str (tx v)]), none, some (.val (dueV (rdS l))), some (.val (dueV (rdS l))), some (.val (.int y)), some (.val (.str (tx l))), none, none] ex := by
      simp [b_law_10, tu]
    rw [seq_nx t9, seq_nx t10]
    clear t9 t10 du tu
    cases er : rdS l with
    | no => exact ⟨ex, by simp +decide [b_law_11, dueV, is_str]⟩
    | em => exact ⟨ex, by simp +decide [b_law_11, dueV, is_str]⟩
    | sp lo hi =>
      obtain ⟨b1, b2⟩ := rdS_sm100 er
      simp only [dueV]
      have t11 : b_law_11 [some (.val (.slst (ns.map Val.int))), some (.val (.int p)), some (.val (.int q)), some (.own [.str (tx w), .str (tx v)]), none, some (.val (.tup [oi lo, oi hi])), some (.val (.tup [oi lo, oi hi])), some (.val (.int y)), some (.val (.str (tx l))), none, none] ex = .nx [some (.val (.slst (ns.map Val.int))), some (.val (.int p)), some (.val (.int q)), some (.own [.str (tx w), .str (tx v)]), none, some (.val (.tup [oi lo, oi hi])), some (.val (.tup [oi lo, oi hi])), some (.val (.int y)), some (.val (.str (tx l))), none, none] ex := by
        simp +decide [b_law_11, is_str_tup]
      have t12 : b_law_12 [some (.val (.slst (ns.map Val.int))), some (.val (.int p)), some (.val (.int q)), some (.own [.str (tx w), .str (tx v)]), none, some (.val (.tup [oi lo, oi hi])), some (.val (.tup [oi lo, oi hi])), some (.val (.int y)), some (.val (.str (tx l))), none, none] ex = .nx [some (.val (.slst (ns.map Val.int))), some (.val (.int p)), some (.val (.int q)), some (.own [.str (tx w), .str (tx v)]), none, some (.val (.tup [oi lo, oi hi])), some (.val (.tup [oi lo, oi hi])), some (.val (.int y)), some (.val (.str (tx l))), none, none] ex := by
        simp +decide [b_law_12]
      have t13 : b_law_13 [some (.val (.slst (ns.map Val.int))), some (.val (.int p)), some (.val (.int q)), some (.own [.str (tx w), .str (tx v)]), none, some (.val (.tup [oi lo, oi hi])), some (.val (.tup [oi lo, oi hi])), some (.val (.int y)), some (.val (.str (tx l))), none, none] ex = .nx [some (.val (.slst (ns.map Val.int))), some (.val (.int p)), some (.val (.int q)), some (.own [.str (tx w), .str (tx v)]), none, some (.val (.tup [oi lo, oi hi])), some (.val (.tup [oi lo, oi hi])), some (.val (.int y)), some (.val (.str (tx l))), none, none] ex := by
        have u0 := fun S0 S1 S2 S3 S4 S7 S8 S10 => w2step 0 (.inl rfl) lo hi S0 S1 S2 S3 S4 S7 S8 S10 ex
        have u1 := fun S0 S1 S2 S3 S4 S7 S8 S10 => w2step 1 (.inr rfl) lo hi S0 S1 S2 S3 S4 S7 S8 S10 ex
        simp [b_law_13, dForGo, rng2, u0, u1]
      have sh := show_span_eq lo hi b1 b2 ex
      have sh2 := l_shown_eq lo hi b1 b2 ex
      have t14 : b_law_14 [some (.val (.slst (ns.map Val.int))), some (.val (.int p)), some (.val (.int q)), some (.own [.str (tx w), .str (tx v)]), none, some (.val (.tup [oi lo, oi hi])), some (.val (.tup [oi lo, oi hi])), some (.val (.int y)), some (.val (.str (tx l))), none, none] ex = .nx [some (.val (.slst (ns.map Val.int))), some (.val (.int p)), some (.val (.int q)), some (.own [.str (tx w), .str (tx v)]), none, some (.val (.tup [oi lo, oi hi])), some (.val (.tup [oi lo, oi hi])), some (.val (.int y)), some (.val (.str (tx l))), none, some (.val (.str (tx (shL lo hi))))] ex := by
        simp [b_law_14, sh]
      have ne : gNe (.tup [oi lo, oi hi]) (.tup [oi lo, oi hi]) = some (.val (.bl false)) := by
        cases lo <;> cases hi <;> simp [gNe, dat, eqv, eqvs, oi]
      have qe : gEq (.tup [oi lo, oi hi]) (.tup [oi lo, oi hi]) = some (.val (.bl true)) := by
        cases lo <;> cases hi <;> simp [gEq, dat, eqv, eqvs, oi]
      have t15 : b_law_15 [some (.val (.slst (ns.map Val.int))), some (.val (.int p)), some (.val (.int q)), some (.own [.str (tx w), .str (tx v)]), none, some (.val (.tup [oi lo, oi hi])), some (.val (.tup [oi lo, oi hi])), some (.val (.int y)), some (.val (.str (tx l))), none, some (.val (.str (tx (shL lo hi))))] ex = .nx [some (.val (.slst (ns.map Val.int))), some (.val (.int p)), some (.val (.int q)), some (.own [.str (tx w), .str (tx v)]), none, some (.val (.tup [oi lo, oi hi])), some (.val (.tup [oi lo, oi hi])), some (.val (.int y)), some (.val (.str (tx l))), none, some (.val (.str (tx (shL lo hi))))] ex := by
        simp [b_law_15, ne, is_str, sh2]
      rw [seq_nx t11, seq_nx t12, seq_nx t13, seq_nx t14, seq_nx t15]
      clear t11 t12 t13 t14 t15 sh sh2
      have sw := size_600 (show w.length ≤ 600 by omega)
      have sv := size_600 (show v.length ≤ 600 by omega)
      have z0 : 0 < sizeLine := by rw [sizeLine_eq]; decide
      have z1 : 1 < sizeLine := by rw [sizeLine_eq]; decide
      have gm : gMax [.lst [.int (w.length : Int), .int (v.length : Int)]] = some (.val (.int (max (w.length : Int) (v.length : Int)))) := by
        simp [gMax, lstOf, intsOf, maxI]
        try omega
      by_cases h16 : w.length ≤ 59 ∧ v.length ≤ 59
      · have t16 : b_law_16 [some (.val (.slst (ns.map Val.int))), some (.val (.int p)), some (.val (.int q)), some (.own [.str (tx w), .str (tx v)]), none, some (.val (.tup [oi lo, oi hi])), some (.val (.tup [oi lo, oi hi])), some (.val (.int y)), some (.val (.str (tx l))), none, some (.val (.str (tx (shL lo hi))))] ex = .nx [some (.val (.slst (ns.map Val.int))), some (.val (.int p)), some (.val (.int q)), some (.own [.str (tx w), .str (tx v)]), none, some (.val (.tup [oi lo, oi hi])), some (.val (.tup [oi lo, oi hi])), some (.val (.int y)), some (.val (.str (tx l))), none, some (.val (.str (tx (shL lo hi))))] ex := by
          have m1 : ¬ 59 < max (w.length : Int) (v.length : Int) := by omega
          generalize max (w.length : Int) (v.length : Int) = MX at *
          simp +decide [b_law_16, sw, sv, dComp, dCompGo, z0, z1, gm, m1, -gMax]
        rw [seq_nx t16]
        have n60 := no60 (h := h) (t := t) (w := w) (v := v) (l := l) (by omega) (by omega) h16.1 h16.2 fw fv (by omega) (by omega) (hT ▸ sl) (rdS_mem er)
        obtain ⟨c1, c2, c3⟩ := rdS_sm er n60
        have rs := rdS_shown c1 c2 c3
        obtain ⟨ex2, rr⟩ := read_span_eq (shL lo hi) (by have := shL_len b1 b2; omega) ex
        rw [rs] at rr
        simp only [outS] at rr
        exact ⟨ex ++ ex2, by simp [b_law_17, rr, qe]⟩
      · refine ⟨ex, ?_⟩
        have m1 : 59 < max (w.length : Int) (v.length : Int) := by omega
        simp +decide [b_law_16, sw, sv, dComp, dCompGo, z0, z1, gm, m1, -gMax]
end Lw

namespace Lw
open PySem L2 Eg
structure Txt (mg : Str → Option Value) : Prop where
  z_ValueError : mg "ValueError" = none
  z_all : mg "all" = none
  z_bool : mg "bool" = none
  z_int : mg "int" = none
  z_isinstance : mg "isinstance" = none
  z_len : mg "len" = none
  z_max : mg "max" = none
  z_range : mg "range" = none
  z_str : mg "str" = none
  z_tuple : mg "tuple" = none
  k_FIGURES : ∃ t, mg "FIGURES" = some (.str "0123456789" t)
  k_MOST_FIGURES : ∃ t, mg "MOST_FIGURES" = some (.int 60 t)
structure XF (K : PySem.W.Frag) (mg : Str → Option Value) (Z : Stc) : Prop where
  g_SpanError : mg "SpanError" = some (.ref (Z.cls 0))
  g_Empty : mg "Empty" = some (.ref (Z.cls 1))
  g_NoText : mg "NoText" = some (.ref (Z.cls 2))
  r_Empty : RaiT K (Z.cls 1)
  r_NoText : RaiT K (Z.cls 2)
  x : XT K Z [1, 2] 3
  n_Shut : Cls K (Z.cls 4)
  na_Shut_place : NoAttr K (Z.cls 4) "place"
  n_Open : Cls K (Z.cls 5)
  na_Open_place : NoAttr K (Z.cls 5) "place"
  o_Endless : Fm0 K mg Z 6 "Endless"
section
variable {P : Program} {w : World} {K : PySem.W.Frag} {mg : Str → Option Value} {base : Heap} {Z : Stc}
abbrev s_End_low : Stmt := inClass (topS 1) 0
theorem sc_End_low : FnScope ["self"] ["self"] (defScope s_End_low) := ⟨rfl, rfl, rfl, by decide +kernel, rfl, by decide +kernel, by decide +kernel⟩
theorem ok_End_low {f : Addr} {fd : FuncData} (F : Fun K "low" "End.low" s_End_low f fd) (T : Txt mg) (U : XF K mg Z)  : FnOk P w K mg base (L2.CX P w) 1 f fd ["self"] (spD K Z d_End_low 1) :=
  have nd := sc_End_low.nd
  fun_den F sc_End_low fun cdv A outer s H E hr hp tk => mss_one (ms_ret (me_non))
abbrev s_End_behind : Stmt := inClass (topS 1) 1
theorem sc_End_behind : FnScope ["self"] ["self"] (defScope s_End_behind) := ⟨rfl, rfl, rfl, by decide +kernel, rfl, by decide +kernel, by decide +kernel⟩
theorem ok_End_behind {f : Addr} {fd : FuncData} (F : Fun K "behind" "End.behind" s_End_behind f fd) (T : Txt mg) (U : XF K mg Z)  : FnOk P w K mg base (L2.CX P w) 1 f fd ["self"] (spD K Z d_End_behind 1) :=
  have nd := sc_End_behind.nd
  fun_den F sc_End_behind fun cdv A outer s H E hr hp tk => mss_one (ms_ret (me_non))
abbrev s_Shut___init__ : Stmt := inClass (topS 2) 0
theorem sc_Shut___init__ : FnScope ["self", "place"] ["self", "place"] (defScope s_Shut___init__) := ⟨rfl, rfl, rfl, by decide +kernel, rfl, by decide +kernel, by decide +kernel⟩
theorem ok_Shut___init__ {f : Addr} {fd : FuncData} (F : Fun K "__init__" "Shut.__init__" s_Shut___init__ f fd) (T : Txt mg) (U : XF K mg Z)  : FnOk P w K mg base (L2.CX P w) 1 f fd ["self", "place"] (spD K Z d_Shut___init__ 2) :=
  have nd := sc_Shut___init__.nd
  fun_den F sc_Shut___init__ fun cdv A outer s H E hr hp tk => mss_one (ms_setF (.cons U.n_Shut U.na_Shut_place .nil) (mv_of (me_var 1 (pv 1))) (mp_var 0 (pv 0)) (fun a b => ps_fld b a rfl))
abbrev s_Shut_low : Stmt := inClass (topS 2) 1
theorem sc_Shut_low : FnScope ["self"] ["self"] (defScope s_Shut_low) := ⟨rfl, rfl, rfl, by decide +kernel, rfl, by decide +kernel, by decide +kernel⟩
theorem ok_Shut_low {f : Addr} {fd : FuncData} (F : Fun K "low" "Shut.low" s_Shut_low f fd) (T : Txt mg) (U : XF K mg Z)  : FnOk P w K mg base (L2.CX P w) 1 f fd ["self"] (spD K Z d_Shut_low 1) :=
  have nd := sc_Shut_low.nd
  fun_den F sc_Shut_low fun cdv A outer s H E hr hp tk => mss_one (ms_ret (me_fld (.cons U.n_Shut U.na_Shut_place .nil) (mp_var 0 (pv 0))))
abbrev s_Shut_behind : Stmt := inClass (topS 2) 2
theorem sc_Shut_behind : FnScope ["self"] ["self"] (defScope s_Shut_behind) := ⟨rfl, rfl, rfl, by decide +kernel, rfl, by decide +kernel, by decide +kernel⟩
theorem ok_Shut_behind {f : Addr} {fd : FuncData} (F : Fun K "behind" "Shut.behind" s_Shut_behind f fd) (T : Txt mg) (U : XF K mg Z)  : FnOk P w K mg base (L2.CX P w) 1 f fd ["self"] (spD K Z d_Shut_behind 1) :=
  have nd := sc_Shut_behind.nd
  fun_den F sc_Shut_behind fun cdv A outer s H E hr hp tk => mss_one (ms_ret (me_bin os_add (mp_of (me_fld (.cons U.n_Shut U.na_Shut_place .nil) (mp_var 0 (pv 0)))) (mp_of (me_int))))
abbrev s_Open___init__ : Stmt := inClass (topS 3) 0
theorem sc_Open___init__ : FnScope ["self", "place"] ["self", "place"] (defScope s_Open___init__) := ⟨rfl, rfl, rfl, by decide +kernel, rfl, by decide +kernel, by decide +kernel⟩
theorem ok_Open___init__ {f : Addr} {fd : FuncData} (F : Fun K "__init__" "Open.__init__" s_Open___init__ f fd) (T : Txt mg) (U : XF K mg Z)  : FnOk P w K mg base (L2.CX P w) 1 f fd ["self", "place"] (spD K Z d_Open___init__ 2) :=
  have nd := sc_Open___init__.nd
  fun_den F sc_Open___init__ fun cdv A outer s H E hr hp tk => mss_one (ms_setF (.cons U.n_Open U.na_Open_place .nil) (mv_of (me_var 1 (pv 1))) (mp_var 0 (pv 0)) (fun a b => ps_fld b a rfl))
abbrev s_Open_low : Stmt := inClass (topS 3) 1
theorem sc_Open_low : FnScope ["self"] ["self"] (defScope s_Open_low) := ⟨rfl, rfl, rfl, by decide +kernel, rfl, by decide +kernel, by decide +kernel⟩
theorem ok_Open_low {f : Addr} {fd : FuncData} (F : Fun K "low" "Open.low" s_Open_low f fd) (T : Txt mg) (U : XF K mg Z)  : FnOk P w K mg base (L2.CX P w) 1 f fd ["self"] (spD K Z d_Open_low 1) :=
  have nd := sc_Open_low.nd
  fun_den F sc_Open_low fun cdv A outer s H E hr hp tk => mss_one (ms_ret (me_bin os_add (mp_of (me_fld (.cons U.n_Open U.na_Open_place .nil) (mp_var 0 (pv 0)))) (mp_of (me_int))))
abbrev s_Open_behind : Stmt := inClass (topS 3) 2
theorem sc_Open_behind : FnScope ["self"] ["self"] (defScope s_Open_behind) := ⟨rfl, rfl, rfl, by decide +kernel, rfl, by decide +kernel, by decide +kernel⟩
theorem ok_Open_behind {f : Addr} {fd : FuncData} (F : Fun K "behind" "Open.behind" s_Open_behind f fd) (T : Txt mg) (U : XF K mg Z)  : FnOk P w K mg base (L2.CX P w) 1 f fd ["self"] (spD K Z d_Open_behind 1) :=
  have nd := sc_Open_behind.nd
  fun_den F sc_Open_behind fun cdv A outer s H E hr hp tk => mss_one (ms_ret (me_fld (.cons U.n_Open U.na_Open_place .nil) (mp_var 0 (pv 0))))
abbrev s_is_span : Stmt := topS 10
theorem sc_is_span : FnScope ["low", "behind"] ["low", "behind"] (defScope s_is_span) := ⟨rfl, rfl, rfl, by decide +kernel, rfl, by decide +kernel, by decide +kernel⟩
theorem ok_is_span {f : Addr} {fd : FuncData} (F : Fun K "is_span" "is_span" s_is_span f fd) (T : Txt mg) (U : XF K mg Z)  : FnOk P w K mg base (L2.CX P w) 1 f fd ["low", "behind"] (spD K Z d_is_span 2) :=
  have nd := sc_is_span.nd
  fun_den F sc_is_span fun cdv A outer s H E hr hp tk => mss_one (ms_ret (me_or (me_cmp os_isN (mp_var 0 (pv 0)) (mp_of (me_non)) (nomark _)) (me_or (me_cmp os_isN (mp_var 1 (pv 1)) (mp_of (me_non)) (nomark _)) (me_one (me_cmp os_lt (mp_var 0 (pv 0)) (mp_var 1 (pv 1)) (nomark _))))))
abbrev s_read_number : Stmt := topS 15
theorem sc_read_number : FnScope ["text", "figures", "sign"] ["text"] (defScope s_read_number) := ⟨rfl, rfl, rfl, by decide +kernel, rfl, by decide +kernel, by decide +kernel⟩
theorem ok_read_number {f : Addr} {fd : FuncData} (F : Fun K "read_number" "read_number" s_read_number f fd) (T : Txt mg) (U : XF K mg Z)  : FnOk P w K mg base (L2.CX P w) 1 f fd ["text"] (spD K Z d_read_number 1) :=
  have nd := sc_read_number.nd
  fun_den F sc_read_number fun cdv A outer s H E hr hp tk => mss_cons (ms_if (mt_not (mt_val (me_isB (mp_var 0 (pv 0)) T.z_isinstance T.z_str))) (mss_one (ms_raise rfl tk U.g_NoText U.r_NoText)) (mss_nil)) (mss_cons (ms_set (i := 1) (me_var 0 (pv 0)) nd rfl (by first | exact Or.inl rfl | exact Or.inr rfl)) (mss_cons (ms_if (mt_val (me_startswith (mp_var 0 (pv 0)) (mps_cons (mp_of (me_str)) mps_nil))) (mss_one (ms_set (i := 1) (me_sl (mp_var 0 (pv 0)) (mo_some (mp_of (me_int))) mo_none) nd rfl (by first | exact Or.inl rfl | exact Or.inr rfl))) (mss_nil)) (mss_cons (ms_if (mt_pw (mw_or (mt_cmp (os_eq hr.units) (mp_var 1 (pv 1)) (mp_of (me_str)) (nomark _)) (mw_or (mt_cmp os_gt (mp_of (me_cb cs_len (by rfl) T.z_len (by decide +kernel) (mps_cons (mp_var 1 (pv 1)) mps_nil))) (mp_of (me_gint T.k_MOST_FIGURES)) (nomark _)) (mw_or1 (mt_not (mt_val (me_cb (cs_all rfl) (by rfl) T.z_all (by decide +kernel) (mps_cons (mp_of (me_lc (own := [("sign", 2)]) (T := (.nm 2)) rfl nd (mi_txt (mp_var 1 (pv 1))) (blkOk_by (own := [("sign", 2)]) (N := ["text", "figures", "sign"]) (sc := defScope s_read_number) (by decide +kernel)) (by rfl) (fun _ _ _ _ _ => (pg_name (i := 2) nd rfl (by first | exact Or.inl rfl | exact Or.inr rfl))) (fun _ _ _ _ _ => mts_nil) (fun _ _ _ _ _ => mv_of (me_cmp os_inS (mp_var 2 (pv 2)) (mp_of (me_gstr T.k_FIGURES)) (by rfl))))) mps_nil)))))))) (mss_one (ms_raise rfl tk U.g_NoText U.r_NoText)) (mss_nil)) (mss_cons (ms_if (mt_pw (mw_and (mt_cmp (os_eq hr.units) (mp_of (me_ix (mp_var 1 (pv 1)) (mp_of (me_int)))) (mp_of (me_str)) (nomark _)) (mw_and1 (mt_cmp (os_ne hr.units) (mp_var 0 (pv 0)) (mp_of (me_str)) (nomark _))))) (mss_one (ms_raise rfl tk U.g_NoText U.r_NoText)) (mss_nil)) (mss_one (ms_ret (me_ct cs_intT (by rfl) T.z_int (by decide +kernel) (mps_cons (mp_var 0 (pv 0)) mps_nil))))))))
abbrev s_show_span : Stmt := topS 18
theorem sc_show_span : FnScope ["one", "low", "behind", "left", "right"] ["one"] (defScope s_show_span) := ⟨rfl, rfl, rfl, by decide +kernel, rfl, by decide +kernel, by decide +kernel⟩
theorem ok_show_span {f : Addr} {fd : FuncData} (F : Fun K "show_span" "show_span" s_show_span f fd) (T : Txt mg) (U : XF K mg Z)  : FnOk P w K mg base (L2.CX P w) 1 f fd ["one"] (spD K Z d_show_span 1) :=
  have nd := sc_show_span.nd
  fun_den F sc_show_span fun cdv A outer s H E hr hp tk => mss_cons (ms_asg (me_var 0 (pv 0)) (pg_tup rfl (pgs_cons (pg_name (i := 1) nd rfl (by first | exact Or.inl rfl | exact Or.inr rfl)) (pgs_cons (pg_name (i := 2) nd rfl (by first | exact Or.inl rfl | exact Or.inr rfl)) pgs_nil)))) (mss_cons (ms_set (i := 3) (me_str) nd rfl (by first | exact Or.inl rfl | exact Or.inr rfl)) (mss_cons (ms_if (mt_cmp os_notN (mp_var 1 (pv 1)) (mp_of (me_non)) (nomark _)) (mss_one (ms_set (i := 3) (me_bin os_add (mp_of (me_str)) (mp_of (me_ct cs_str (by rfl) T.z_str (by decide +kernel) (mps_cons (mp_var 1 (pv 1)) mps_nil)))) nd rfl (by first | exact Or.inl rfl | exact Or.inr rfl))) (mss_nil)) (mss_cons (ms_set (i := 4) (me_str) nd rfl (by first | exact Or.inl rfl | exact Or.inr rfl)) (mss_cons (ms_if (mt_cmp os_notN (mp_var 2 (pv 2)) (mp_of (me_non)) (nomark _)) (mss_one (ms_set (i := 4) (me_bin os_add (mp_of (me_ct cs_str (by rfl) T.z_str (by decide +kernel) (mps_cons (mp_var 2 (pv 2)) mps_nil))) (mp_of (me_str))) nd rfl (by first | exact Or.inl rfl | exact Or.inr rfl))) (mss_nil)) (mss_one (ms_ret (me_bin os_add (mp_of (me_bin os_add (mp_var 3 (pv 3)) (mp_of (me_str)))) (mp_var 4 (pv 4)))))))))
abbrev s_l_cell_at : Stmt := topS 20
theorem sc_l_cell_at : FnScope ["_law_script", "_law_k"] ["_law_script", "_law_k"] (defScope s_l_cell_at) := ⟨rfl, rfl, rfl, by decide +kernel, rfl, by decide +kernel, by decide +kernel⟩
theorem ok_l_cell_at {f : Addr} {fd : FuncData} (F : Fun K "_law_cell_at" "_law_cell_at" s_l_cell_at f fd) (T : Txt mg) (U : XF K mg Z)  : FnOk P w K mg base (L2.CX P w) 1 f fd ["_law_script", "_law_k"] (spD K Z d_l_cell_at 2) :=
  have nd := sc_l_cell_at.nd
  fun_den F sc_l_cell_at fun cdv A outer s H E hr hp tk => mss_cons (ms_if (mt_cmp os_lt (mp_var 1 (pv 1)) (mp_of (me_cb cs_len (by rfl) T.z_len (by decide +kernel) (mps_cons (mp_var 0 (pv 0)) mps_nil))) (nomark _)) (mss_one (ms_ret (me_ix (mp_var 0 (pv 0)) (mp_var 1 (pv 1))))) (mss_nil)) (mss_one (ms_ret (me_int)))
abbrev s_l_number : Stmt := topS 21
theorem sc_l_number : FnScope ["_law_cell"] ["_law_cell"] (defScope s_l_number) := ⟨rfl, rfl, rfl, by decide +kernel, rfl, by decide +kernel, by decide +kernel⟩
theorem ok_l_number {f : Addr} {fd : FuncData} (F : Fun K "_law_number" "_law_number" s_l_number f fd) (T : Txt mg) (U : XF K mg Z)  : FnOk P w K mg base (L2.CX P w) 1 f fd ["_law_cell"] (spD K Z d_l_number 1) :=
  have nd := sc_l_number.nd
  fun_den F sc_l_number fun cdv A outer s H E hr hp tk => mss_cons (ms_if (mt_cmp (os_eq hr.units) (mp_of (me_bin os_mod (mp_var 0 (pv 0)) (mp_of (me_int)))) (mp_of (me_int)) (nomark _)) (mss_one (ms_ret (me_bin os_sub (mp_of (me_bin os_mod (mp_of (me_bin os_mul (mp_of (me_bin os_div (mp_var 0 (pv 0)) (mp_of (me_int)))) (mp_of (me_bin os_add (mp_of (me_bin os_pow (mp_of (me_int)) (mp_of (me_int)))) (mp_of (me_int)))))) (mp_of (me_bin os_add (mp_of (me_bin os_mul (mp_of (me_int)) (mp_of (me_bin os_pow (mp_of (me_int)) (mp_of (me_int)))))) (mp_of (me_int)))))) (mp_of (me_bin os_pow (mp_of (me_int)) (mp_of (me_int))))))) (mss_nil)) (mss_one (ms_ret (me_bin os_sub (mp_of (me_bin os_mod (mp_of (me_bin os_div (mp_var 0 (pv 0)) (mp_of (me_int)))) (mp_of (me_int)))) (mp_of (me_int)))))
abbrev s_l_word : Stmt := topS 22
theorem sc_l_word : FnScope ["_law_cell", "_law_number_here", "_law_odd"] ["_law_cell", "_law_number_here"] (defScope s_l_word) := ⟨rfl, rfl, rfl, by decide +kernel, rfl, by decide +kernel, by decide +kernel⟩
theorem ok_l_word {f : Addr} {fd : FuncData} (F : Fun K "_law_word" "_law_word" s_l_word f fd) (T : Txt mg) (U : XF K mg Z)  : FnOk P w K mg base (L2.CX P w) 1 f fd ["_law_cell", "_law_number_here"] (spD K Z d_l_word 2) :=
  have nd := sc_l_word.nd
  fun_den F sc_l_word fun cdv A outer s H E hr hp tk => mss_cons (ms_if (mt_cmp (os_eq hr.units) (mp_of (me_bin os_mod (mp_var 0 (pv 0)) (mp_of (me_int)))) (mp_of (me_int)) (nomark _)) (mss_one (ms_ret (me_str))) (mss_nil)) (mss_cons (ms_if (mt_cmp (os_eq hr.units) (mp_of (me_bin os_mod (mp_var 0 (pv 0)) (mp_of (me_int)))) (mp_of (me_int)) (nomark _)) (mss_cons (ms_set (i := 2) (me_lst (mvs_cons (mv_of (me_str)) (mvs_cons (mv_of (me_str)) (mvs_cons (mv_of (me_str)) (mvs_cons (mv_of (me_str)) (mvs_cons (mv_of (me_str)) (mvs_cons (mv_of (me_str)) (mvs_cons (mv_of (me_str)) (mvs_cons (mv_of (me_bin os_add (mp_of (me_str)) (mp_of (me_bin os_mulS (mp_of (me_str)) (mp_of (me_int)))))) (mvs_cons (mv_of (me_bin os_add (mp_of (me_str)) (mp_of (me_bin os_mulS (mp_of (me_str)) (mp_of (me_int)))))) (mvs_cons (mv_of (me_str)) (mvs_cons (mv_of (me_str)) (mvs_cons (mv_of (me_str)) (mvs_cons (mv_of (me_str)) (mvs_cons (mv_of (me_str)) mvs_nil))))))))))))))) nd rfl (by first | exact Or.inl rfl | exact Or.inr rfl)) (mss_one (ms_ret (me_ix (mp_var 2 (pv 2)) (mp_of (me_bin os_mod (mp_of (me_bin os_div (mp_var 0 (pv 0)) (mp_of (me_int)))) (mp_of (me_int)))))))) (mss_nil)) (mss_one (ms_ret (me_ct cs_str (by rfl) T.z_str (by decide +kernel) (mps_cons (mp_var 1 (pv 1)) mps_nil)))))
abbrev s_l_spoilt : Stmt := topS 23
theorem sc_l_spoilt : FnScope ["_law_text", "_law_cell", "_law_signs", "_law_sign", "_law_at"] ["_law_text", "_law_cell"] (defScope s_l_spoilt) := ⟨rfl, rfl, rfl, by decide +kernel, rfl, by decide +kernel, by decide +kernel⟩
theorem ok_l_spoilt {f : Addr} {fd : FuncData} (F : Fun K "_law_spoilt" "_law_spoilt" s_l_spoilt f fd) (T : Txt mg) (U : XF K mg Z)  : FnOk P w K mg base (L2.CX P w) 1 f fd ["_law_text", "_law_cell"] (spD K Z d_l_spoilt 2) :=
  have nd := sc_l_spoilt.nd
  fun_den F sc_l_spoilt fun cdv A outer s H E hr hp tk => mss_cons (ms_set (i := 2) (me_str) nd rfl (by first | exact Or.inl rfl | exact Or.inr rfl)) (mss_cons (ms_set (i := 3) (me_ix (mp_var 2 (pv 2)) (mp_of (me_bin os_mod (mp_of (me_bin os_div (mp_var 1 (pv 1)) (mp_of (me_int)))) (mp_of (me_cb cs_len (by rfl) T.z_len (by decide +kernel) (mps_cons (mp_var 2 (pv 2)) mps_nil)))))) nd rfl (by first | exact Or.inl rfl | exact Or.inr rfl)) (mss_cons (ms_set (i := 4) (me_bin os_mod (mp_of (me_bin os_div (mp_var 1 (pv 1)) (mp_of (me_int)))) (mp_of (me_bin os_add (mp_of (me_cb cs_len (by rfl) T.z_len (by decide +kernel) (mps_cons (mp_var 0 (pv 0)) mps_nil))) (mp_of (me_int))))) nd rfl (by first | exact Or.inl rfl | exact Or.inr rfl)) (mss_cons (ms_if (mt_cmp (os_eq hr.units) (mp_of (me_bin os_mod (mp_var 1 (pv 1)) (mp_of (me_int)))) (mp_of (me_int)) (nomark _)) (mss_one (ms_ret (me_bin os_add (mp_of (me_bin os_add (mp_of (me_sl (mp_var 0 (pv 0)) mo_none (mo_some (mp_var 4 (pv 4))))) (mp_var 3 (pv 3)))) (mp_of (me_sl (mp_var 0 (pv 0)) (mo_some (mp_var 4 (pv 4))) mo_none))))) (mss_nil)) (mss_cons (ms_if (mt_cmp (os_eq hr.units) (mp_of (me_bin os_mod (mp_var 1 (pv 1)) (mp_of (me_int)))) (mp_of (me_int)) (nomark _)) (mss_one (ms_ret (me_bin os_add (mp_of (me_bin os_add (mp_of (me_sl (mp_var 0 (pv 0)) mo_none (mo_some (mp_var 4 (pv 4))))) (mp_var 3 (pv 3)))) (mp_of (me_sl (mp_var 0 (pv 0)) (mo_some (mp_of (me_bin os_add (mp_var 4 (pv 4)) (mp_of (me_int))))) mo_none))))) (mss_nil)) (mss_cons (ms_if (mt_pw (mw_or (mt_cmp (os_eq hr.units) (mp_of (me_bin os_mod (mp_var 1 (pv 1)) (mp_of (me_int)))) (mp_of (me_int)) (nomark _)) (mw_or1 (mt_cmp (os_eq hr.units) (mp_of (me_bin os_mod (mp_var 1 (pv 1)) (mp_of (me_int)))) (mp_of (me_int)) (nomark _))))) (mss_one (ms_ret (me_bin os_add (mp_of (me_sl (mp_var 0 (pv 0)) mo_none (mo_some (mp_var 4 (pv 4))))) (mp_of (me_sl (mp_var 0 (pv 0)) (mo_some (mp_of (me_bin os_add (mp_var 4 (pv 4)) (mp_of (me_int))))) mo_none))))) (mss_nil)) (mss_one (ms_retV 0 (pv 0))))))))
abbrev s_l_read : Stmt := topS 24
theorem sc_l_read : FnScope ["_law_word_here", "_law_figures", "_law_sign"] ["_law_word_here"] (defScope s_l_read) := ⟨rfl, rfl, rfl, by decide +kernel, rfl, by decide +kernel, by decide +kernel⟩
theorem ok_l_read {f : Addr} {fd : FuncData} (F : Fun K "_law_read" "_law_read" s_l_read f fd) (T : Txt mg) (U : XF K mg Z)  : FnOk P w K mg base (L2.CX P w) 1 f fd ["_law_word_here"] (spD K Z d_l_read 1) :=
  have nd := sc_l_read.nd
  fun_den F sc_l_read fun cdv A outer s H E hr hp tk => mss_cons (ms_set (i := 1) (me_var 0 (pv 0)) nd rfl (by first | exact Or.inl rfl | exact Or.inr rfl)) (mss_cons (ms_if (mt_cmp (os_eq hr.units) (mp_of (me_sl (mp_var 0 (pv 0)) mo_none (mo_some (mp_of (me_int))))) (mp_of (me_str)) (nomark _)) (mss_one (ms_set (i := 1) (me_sl (mp_var 0 (pv 0)) (mo_some (mp_of (me_int))) mo_none) nd rfl (by first | exact Or.inl rfl | exact Or.inr rfl))) (mss_nil)) (mss_cons (ms_if (mt_pw (mw_or (mt_cmp (os_eq hr.units) (mp_var 1 (pv 1)) (mp_of (me_str)) (nomark _)) (mw_or (mt_cmp os_gt (mp_of (me_cb cs_len (by rfl) T.z_len (by decide +kernel) (mps_cons (mp_var 1 (pv 1)) mps_nil))) (mp_of (me_int)) (nomark _)) (mw_or1 (mt_pw (mw_and (mt_cmp (os_eq hr.units) (mp_of (me_ix (mp_var 1 (pv 1)) (mp_of (me_int)))) (mp_of (me_str)) (nomark _)) (mw_and1 (mt_cmp (os_ne hr.units) (mp_var 0 (pv 0)) (mp_of (me_str)) (nomark _))))))))) (mss_one (ms_ret (me_non))) (mss_nil)) (mss_cons (ms_pk [2] (ms_for (T := (.nm 2)) hp rfl (mi_txt (mp_var 1 (pv 1))) (pg_name (i := 2) nd rfl (by first | exact Or.inl rfl | exact Or.inr rfl)) (mss_kl [2] (mss_one (ms_if (mt_cmp os_notInS (mp_var 2 (pv 2)) (mp_of (me_str)) (by rfl)) (mss_one (ms_ret (me_non))) (mss_nil)))))) (mss_one (ms_ret (me_ct cs_intT (by rfl) T.z_int (by decide +kernel) (mps_cons (mp_var 0 (pv 0)) mps_nil)))))))
abbrev s_l_whole : Stmt := topS 28
theorem sc_l_whole : FnScope ["_law_found"] ["_law_found"] (defScope s_l_whole) := ⟨rfl, rfl, rfl, by decide +kernel, rfl, by decide +kernel, by decide +kernel⟩
theorem ok_l_whole {f : Addr} {fd : FuncData} (F : Fun K "_law_whole" "_law_whole" s_l_whole f fd) (T : Txt mg) (U : XF K mg Z)  : FnOk P w K mg base (L2.CX P w) 1 f fd ["_law_found"] (spD K Z d_l_whole 1) :=
  have nd := sc_l_whole.nd
  fun_den F sc_l_whole fun cdv A outer s H E hr hp tk => mss_one (ms_ret (me_and (me_isB (mp_var 0 (pv 0)) T.z_isinstance T.z_int) (me_one (me_not (me_isB (mp_var 0 (pv 0)) T.z_isinstance T.z_bool)))))
abbrev s_l_shown : Stmt := topS 29
theorem sc_l_shown : FnScope ["_law_one", "_law_left"] ["_law_one"] (defScope s_l_shown) := ⟨rfl, rfl, rfl, by decide +kernel, rfl, by decide +kernel, by decide +kernel⟩
theorem ok_l_shown {f : Addr} {fd : FuncData} (F : Fun K "_law_shown" "_law_shown" s_l_shown f fd) (T : Txt mg) (U : XF K mg Z)  : FnOk P w K mg base (L2.CX P w) 1 f fd ["_law_one"] (spD K Z d_l_shown 1) :=
  have nd := sc_l_shown.nd
  fun_den F sc_l_shown fun cdv A outer s H E hr hp tk => mss_cons (ms_set (i := 1) (me_str) nd rfl (by first | exact Or.inl rfl | exact Or.inr rfl)) (mss_cons (ms_if (mt_cmp os_notN (mp_of (me_ix (mp_var 0 (pv 0)) (mp_of (me_int)))) (mp_of (me_non)) (nomark _)) (mss_one (ms_set (i := 1) (me_bin os_add (mp_of (me_str)) (mp_of (me_ct cs_str (by rfl) T.z_str (by decide +kernel) (mps_cons (mp_of (me_ix (mp_var 0 (pv 0)) (mp_of (me_int)))) mps_nil)))) nd rfl (by first | exact Or.inl rfl | exact Or.inr rfl))) (mss_nil)) (mss_cons (ms_if (mt_cmp os_isN (mp_of (me_ix (mp_var 0 (pv 0)) (mp_of (me_int)))) (mp_of (me_non)) (nomark _)) (mss_one (ms_ret (me_bin os_add (mp_var 1 (pv 1)) (mp_of (me_str))))) (mss_nil)) (mss_one (ms_ret (me_bin os_add (mp_of (me_bin os_add (mp_of (me_bin os_add (mp_var 1 (pv 1)) (mp_of (me_str)))) (mp_of (me_ct cs_str (by rfl) T.z_str (by decide +kernel) (mps_cons (mp_of (me_ix (mp_var 0 (pv 0)) (mp_of (me_int)))) mps_nil))))) (mp_of (me_str)))))))
abbrev s_span : Stmt := topS 11
theorem sc_span : FnScope ["low_end", "high_end", "low", "behind"] ["low_end", "high_end"] (defScope s_span) := ⟨rfl, rfl, rfl, by decide +kernel, rfl, by decide +kernel, by decide +kernel⟩
theorem ok_span {f : Addr} {fd : FuncData} (F : Fun K "span" "span" s_span f fd) (T : Txt mg) (U : XF K mg Z) (M_Shut_low : Fmt P w K mg base Z 1 4 1 "low" d_Shut_low) (M_Open_low : Fmt P w K mg base Z 1 5 1 "low" d_Open_low) (M_Endless_low : Fmt P w K mg base Z 1 6 1 "low" d_End_low) (M_Shut_behind : Fmt P w K mg base Z 1 4 1 "behind" d_Shut_behind) (M_Open_behind : Fmt P w K mg base Z 1 5 1 "behind" d_Open_behind) (M_Endless_behind : Fmt P w K mg base Z 1 6 1 "behind" d_End_behind) (F_is_span : Fd P w K mg base Z 1 "is_span" 2 d_is_span) : FnOk P w K mg base (L2.CX P w) 2 f fd ["low_end", "high_end"] (spD K Z d_span 2) :=
  have nd := sc_span.nd
  fun_den F sc_span fun cdv A outer s H E hr hp tk => mss_cons (ms_set (i := 2) (me_meth0 (cm := false) (.cons (Fmt.mono M_Shut_low (k' := 1) (by decide)) (.cons (Fmt.mono M_Open_low (k' := 1) (by decide)) (.one (Fmt.mono M_Endless_low (k' := 1) (by decide))))) (hr.mono (by decide)) (fun _ => tk) (mp_var 0 (pv 0))) nd rfl (by first | exact Or.inl rfl | exact Or.inr rfl)) (mss_cons (ms_set (i := 3) (me_meth0 (cm := false) (.cons (Fmt.mono M_Shut_behind (k' := 1) (by decide)) (.cons (Fmt.mono M_Open_behind (k' := 1) (by decide)) (.one (Fmt.mono M_Endless_behind (k' := 1) (by decide))))) (hr.mono (by decide)) (fun _ => tk) (mp_var 1 (pv 1))) nd rfl (by first | exact Or.inl rfl | exact Or.inr rfl)) (mss_cons (ms_if (mt_not (mt_val (me_call F_is_span (hr.mono (by decide)) tk (ma_cons (m1_val (mv_of (me_var 2 (pv 2)))) (ma_cons (m1_val (mv_of (me_var 3 (pv 3)))) ma_nil))))) (mss_one (ms_raise rfl tk U.g_Empty U.r_Empty)) (mss_nil)) (mss_one (ms_ret (me_tup (mvs_cons (mv_of (me_var 2 (pv 2))) (mvs_cons (mv_of (me_var 3 (pv 3))) mvs_nil)))))))
abbrev s_l_end : Stmt := topS 25
theorem sc_l_end : FnScope ["_law_bracket", "_law_word_here", "_law_shut", "_law_more", "_law_place"] ["_law_bracket", "_law_word_here", "_law_shut", "_law_more"] (defScope s_l_end) := ⟨rfl, rfl, rfl, by decide +kernel, rfl, by decide +kernel, by decide +kernel⟩
theorem ok_l_end {f : Addr} {fd : FuncData} (F : Fun K "_law_end" "_law_end" s_l_end f fd) (T : Txt mg) (U : XF K mg Z) (F_l_read : Fd P w K mg base Z 1 "_law_read" 1 d_l_read) : FnOk P w K mg base (L2.CX P w) 2 f fd ["_law_bracket", "_law_word_here", "_law_shut", "_law_more"] (spD K Z d_l_end 4) :=
  have nd := sc_l_end.nd
  fun_den F sc_l_end fun cdv A outer s H E hr hp tk => mss_cons (ms_if (mt_pw (mw_and (mt_cmp (os_eq hr.units) (mp_var 1 (pv 1)) (mp_of (me_str)) (nomark _)) (mw_and1 (mt_cmp (os_ne hr.units) (mp_var 0 (pv 0)) (mp_var 2 (pv 2)) (nomark _))))) (mss_one (ms_ret (me_lst (mvs_cons (mv_of (me_non)) mvs_nil)))) (mss_nil)) (mss_cons (ms_set (i := 4) (me_call F_l_read (hr.mono (by decide)) tk (ma_cons (m1_val (mv_of (me_var 1 (pv 1)))) ma_nil)) nd rfl (by first | exact Or.inl rfl | exact Or.inr rfl)) (mss_cons (ms_if (mt_cmp os_isN (mp_var 4 (pv 4)) (mp_of (me_non)) (nomark _)) (mss_one (ms_ret (me_lst mvs_nil))) (mss_nil)) (mss_one (ms_ret (me_lst (mvs_cons (mv_of (me_bin os_add (mp_var 4 (pv 4)) (mp_var 3 (pv 3)))) mvs_nil))))))
abbrev s_read_end : Stmt := topS 16
theorem sc_read_end : FnScope ["bracket", "word", "shut", "place"] ["bracket", "word", "shut"] (defScope s_read_end) := ⟨rfl, rfl, rfl, by decide +kernel, rfl, by decide +kernel, by decide +kernel⟩
theorem ok_read_end {f : Addr} {fd : FuncData} (F : Fun K "read_end" "read_end" s_read_end f fd) (T : Txt mg) (U : XF K mg Z) (F_read_number : Fd P w K mg base Z 1 "read_number" 1 d_read_number) (K_Open_1 : Fmk P w K mg base Z 1 5 2 "Open" [] d_Open___init__) (K_Shut_1 : Fmk P w K mg base Z 1 4 2 "Shut" [] d_Shut___init__) : FnOk P w K mg base (L2.CX P w) 3 f fd ["bracket", "word", "shut"] (spD K Z d_read_end 3) :=
  have nd := sc_read_end.nd
  fun_den F sc_read_end fun cdv A outer s H E hr hp tk => mss_cons (ms_if (mt_pw (mw_and (mt_cmp (os_eq hr.units) (mp_var 1 (pv 1)) (mp_of (me_str)) (nomark _)) (mw_and1 (mt_cmp (os_ne hr.units) (mp_var 0 (pv 0)) (mp_var 2 (pv 2)) (nomark _))))) (mss_one (ms_ret (me_makeO U.o_Endless))) (mss_nil)) (mss_cons (ms_set (i := 3) (me_call F_read_number (hr.mono (by decide)) tk (ma_cons (m1_val (mv_of (me_var 1 (pv 1)))) ma_nil)) nd rfl (by first | exact Or.inl rfl | exact Or.inr rfl)) (mss_cons (ms_if (mt_cmp (os_eq hr.units) (mp_var 0 (pv 0)) (mp_var 2 (pv 2)) (nomark _)) (mss_one (ms_ret (me_make (cm := false) K_Shut_1 (hr.mono (by decide)) (fun _ => tk) (ma_cons (m1_val (mv_of (me_var 3 (pv 3)))) ma_nil)))) (mss_nil)) (mss_one (ms_ret (me_make (cm := false) K_Open_1 (hr.mono (by decide)) (fun _ => tk) (ma_cons (m1_val (mv_of (me_var 3 (pv 3)))) ma_nil))))))
abbrev s_l_due : Stmt := topS 26
theorem sc_l_due : FnScope ["_law_text", "_law_left", "_law_comma", "_law_right", "_law_low", "_law_behind"] ["_law_text"] (defScope s_l_due) := ⟨rfl, rfl, rfl, by decide +kernel, rfl, by decide +kernel, by decide +kernel⟩
theorem ok_l_due {f : Addr} {fd : FuncData} (F : Fun K "_law_due" "_law_due" s_l_due f fd) (T : Txt mg) (U : XF K mg Z) (F_l_end : Fd P w K mg base Z 2 "_law_end" 4 d_l_end) : FnOk P w K mg base (L2.CX P w) 3 f fd ["_law_text"] (spD K Z d_l_due 1) :=
  have nd := sc_l_due.nd
  fun_den F sc_l_due fun cdv A outer s H E hr hp tk => mss_cons (ms_if (mt_pw (mw_or (mt_cmp os_lt (mp_of (me_cb cs_len (by rfl) T.z_len (by decide +kernel) (mps_cons (mp_var 0 (pv 0)) mps_nil))) (mp_of (me_int)) (nomark _)) (mw_or (mt_cmp os_notIn (mp_of (me_ix (mp_var 0 (pv 0)) (mp_of (me_int)))) (mp_of (me_lst (mvs_cons (mv_of (me_str)) (mvs_cons (mv_of (me_str)) mvs_nil)))) (by rfl)) (mw_or (mt_cmp os_notIn (mp_of (me_ix (mp_var 0 (pv 0)) (mp_of (me_neg (mp_of (me_int)))))) (mp_of (me_lst (mvs_cons (mv_of (me_str)) (mvs_cons (mv_of (me_str)) mvs_nil)))) (by rfl)) (mw_or1 (mt_cmp os_notInS (mp_of (me_str)) (mp_var 0 (pv 0)) (by rfl))))))) (mss_one (ms_ret (me_str))) (mss_nil)) (mss_cons (ms_asg (me_partition (mp_of (me_sl (mp_var 0 (pv 0)) (mo_some (mp_of (me_int))) (mo_some (mp_of (me_neg (mp_of (me_int))))))) (mps_cons (mp_of (me_str)) mps_nil)) (pg_tup rfl (pgs_cons (pg_name (i := 1) nd rfl (by first | exact Or.inl rfl | exact Or.inr rfl)) (pgs_cons (pg_name (i := 2) nd rfl (by first | exact Or.inl rfl | exact Or.inr rfl)) (pgs_cons (pg_name (i := 3) nd rfl (by first | exact Or.inl rfl | exact Or.inr rfl)) pgs_nil))))) (mss_cons (ms_set (i := 4) (me_call F_l_end (hr.mono (by decide)) tk (ma_cons (m1_val (mv_of (me_ix (mp_var 0 (pv 0)) (mp_of (me_int))))) (ma_cons (m1_val (mv_of (me_var 1 (pv 1)))) (ma_cons (m1_val (mv_of (me_str))) (ma_cons (m1_val (mv_of (me_ct cs_int (by rfl) T.z_int (by decide +kernel) (mps_cons (mp_of (me_cmp (os_eq hr.units) (mp_of (me_ix (mp_var 0 (pv 0)) (mp_of (me_int)))) (mp_of (me_str)) (nomark _))) mps_nil)))) ma_nil))))) nd rfl (by first | exact Or.inl rfl | exact Or.inr rfl)) (mss_cons (ms_set (i := 5) (me_call F_l_end (hr.mono (by decide)) tk (ma_cons (m1_val (mv_of (me_ix (mp_var 0 (pv 0)) (mp_of (me_neg (mp_of (me_int))))))) (ma_cons (m1_val (mv_of (me_var 3 (pv 3)))) (ma_cons (m1_val (mv_of (me_str))) (ma_cons (m1_val (mv_of (me_ct cs_int (by rfl) T.z_int (by decide +kernel) (mps_cons (mp_of (me_cmp (os_eq hr.units) (mp_of (me_ix (mp_var 0 (pv 0)) (mp_of (me_neg (mp_of (me_int)))))) (mp_of (me_str)) (nomark _))) mps_nil)))) ma_nil))))) nd rfl (by first | exact Or.inl rfl | exact Or.inr rfl)) (mss_cons (ms_if (mt_pw (mw_or (mt_cmp (os_eq hr.units) (mp_var 4 (pv 4)) (mp_of (me_lst mvs_nil)) (nomark _)) (mw_or1 (mt_cmp (os_eq hr.units) (mp_var 5 (pv 5)) (mp_of (me_lst mvs_nil)) (nomark _))))) (mss_one (ms_ret (me_str))) (mss_nil)) (mss_cons (ms_if (mt_pw (mw_and (mt_cmp os_notN (mp_of (me_ix (mp_var 4 (pv 4)) (mp_of (me_int)))) (mp_of (me_non)) (nomark _)) (mw_and (mt_cmp os_notN (mp_of (me_ix (mp_var 5 (pv 5)) (mp_of (me_int)))) (mp_of (me_non)) (nomark _)) (mw_and1 (mt_cmp os_ge (mp_of (me_ix (mp_var 4 (pv 4)) (mp_of (me_int)))) (mp_of (me_ix (mp_var 5 (pv 5)) (mp_of (me_int)))) (nomark _)))))) (mss_one (ms_ret (me_str))) (mss_nil)) (mss_one (ms_ret (me_tup (mvs_cons (mv_of (me_ix (mp_var 4 (pv 4)) (mp_of (me_int)))) (mvs_cons (mv_of (me_ix (mp_var 5 (pv 5)) (mp_of (me_int)))) mvs_nil))))))))))
abbrev s_read_span : Stmt := topS 17
theorem sc_read_span : FnScope ["text", "left", "comma", "right", "low_end", "high_end"] ["text"] (defScope s_read_span) := ⟨rfl, rfl, rfl, by decide +kernel, rfl, by decide +kernel, by decide +kernel⟩
theorem ok_read_span {f : Addr} {fd : FuncData} (F : Fun K "read_span" "read_span" s_read_span f fd) (T : Txt mg) (U : XF K mg Z) (F_read_end : Fd P w K mg base Z 3 "read_end" 3 d_read_end) (F_span : Fd P w K mg base Z 2 "span" 2 d_span) : FnOk P w K mg base (L2.CX P w) 4 f fd ["text"] (spD K Z d_read_span 1) :=
  have nd := sc_read_span.nd
  fun_den F sc_read_span fun cdv A outer s H E hr hp tk => mss_cons (ms_if (mt_pw (mw_or (mt_not (mt_val (me_isB (mp_var 0 (pv 0)) T.z_isinstance T.z_str))) (mw_or1 (mt_cmp os_lt (mp_of (me_cb cs_len (by rfl) T.z_len (by decide +kernel) (mps_cons (mp_var 0 (pv 0)) mps_nil))) (mp_of (me_int)) (nomark _))))) (mss_one (ms_raise rfl tk U.g_NoText U.r_NoText)) (mss_nil)) (mss_cons (ms_if (mt_pw (mw_or (mt_cmp os_notIn (mp_of (me_ix (mp_var 0 (pv 0)) (mp_of (me_int)))) (mp_of (me_tup (mvs_cons (mv_of (me_str)) (mvs_cons (mv_of (me_str)) mvs_nil)))) (by rfl)) (mw_or1 (mt_cmp os_notIn (mp_of (me_ix (mp_var 0 (pv 0)) (mp_of (me_neg (mp_of (me_int)))))) (mp_of (me_tup (mvs_cons (mv_of (me_str)) (mvs_cons (mv_of (me_str)) mvs_nil)))) (by rfl))))) (mss_one (ms_raise rfl tk U.g_NoText U.r_NoText)) (mss_nil)) (mss_cons (ms_asg (me_partition (mp_of (me_sl (mp_var 0 (pv 0)) (mo_some (mp_of (me_int))) (mo_some (mp_of (me_neg (mp_of (me_int))))))) (mps_cons (mp_of (me_str)) mps_nil)) (pg_tup rfl (pgs_cons (pg_name (i := 1) nd rfl (by first | exact Or.inl rfl | exact Or.inr rfl)) (pgs_cons (pg_name (i := 2) nd rfl (by first | exact Or.inl rfl | exact Or.inr rfl)) (pgs_cons (pg_name (i := 3) nd rfl (by first | exact Or.inl rfl | exact Or.inr rfl)) pgs_nil))))) (mss_cons (ms_if (mt_cmp (os_eq hr.units) (mp_var 2 (pv 2)) (mp_of (me_str)) (nomark _)) (mss_one (ms_raise rfl tk U.g_NoText U.r_NoText)) (mss_nil)) (mss_cons (ms_set (i := 4) (me_call F_read_end (hr.mono (by decide)) tk (ma_cons (m1_val (mv_of (me_ix (mp_var 0 (pv 0)) (mp_of (me_int))))) (ma_cons (m1_val (mv_of (me_var 1 (pv 1)))) (ma_cons (m1_val (mv_of (me_str))) ma_nil)))) nd rfl (by first | exact Or.inl rfl | exact Or.inr rfl)) (mss_cons (ms_set (i := 5) (me_call F_read_end (hr.mono (by decide)) tk (ma_cons (m1_val (mv_of (me_ix (mp_var 0 (pv 0)) (mp_of (me_neg (mp_of (me_int))))))) (ma_cons (m1_val (mv_of (me_var 3 (pv 3)))) (ma_cons (m1_val (mv_of (me_str))) ma_nil)))) nd rfl (by first | exact Or.inl rfl | exact Or.inr rfl)) (mss_one (ms_ret (me_call F_span (hr.mono (by decide)) tk (ma_cons (m1_val (mv_of (me_var 4 (pv 4)))) (ma_cons (m1_val (mv_of (me_var 5 (pv 5)))) ma_nil))))))))))
abbrev s_l_told : Stmt := topS 27
theorem sc_l_told : FnScope ["_law_text", "_law_spans", "_law_classes", "_law_found", "e"] ["_law_text", "_law_spans"] (defScope s_l_told) := ⟨rfl, rfl, rfl, by decide +kernel, rfl, by decide +kernel, by decide +kernel⟩
theorem ok_l_told {f : Addr} {fd : FuncData} (F : Fun K "_law_told" "_law_told" s_l_told f fd) (T : Txt mg) (U : XF K mg Z) (F_read_span : Fd P w K mg base Z 4 "read_span" 1 d_read_span) (F_read_number : Fd P w K mg base Z 1 "read_number" 1 d_read_number) : FnOk P w K mg base (L2.CX P w) 5 f fd ["_law_text", "_law_spans"] (spD K Z d_l_told 2) :=
  have nd := sc_l_told.nd
  fun_den F sc_l_told fun cdv A outer s H E hr hp tk => mss_cons (ms_set (i := 2) (me_lst mvs_nil) nd rfl (by first | exact Or.inl rfl | exact Or.inr rfl)) (mss_cons (ms_set (i := 3) (me_non) nd rfl (by first | exact Or.inl rfl | exact Or.inr rfl)) (mss_cons (ms_try rfl rfl nd rfl rfl ⟨rfl, by decide, .inl U.g_SpanError⟩ tk U.x (fun W pn xe tk hp => mss_one (ms_if (mt_val (me_var 1 (pv 1))) (mss_one (ms_set (i := 3) (me_call F_read_span (hr.mono (by decide)) tk (ma_cons (m1_val (mv_of (me_var 0 (pv 0)))) ma_nil)) nd rfl (by first | exact Or.inl rfl | exact Or.inr rfl))) (mss_one (ms_set (i := 3) (me_call F_read_number (hr.mono (by decide)) tk (ma_cons (m1_val (mv_of (me_var 0 (pv 0)))) ma_nil)) nd rfl (by first | exact Or.inl rfl | exact Or.inr rfl))))) (fun a oe c pn hcD hz hf => mss_one (ms_set (i := 2) (me_lst (mvs_cons (mv_of (me_isE1 U.x hcD hz hf T.z_isinstance (pv 4) (CL.own U.g_NoText rfl (by decide) CL.nil))) (mvs_cons (mv_of (me_isE1 U.x hcD hz hf T.z_isinstance (pv 4) (CL.own U.g_Empty rfl (by decide) CL.nil))) (mvs_cons (mv_of (me_isE1 U.x hcD hz hf T.z_isinstance (pv 4) (CL.ve T.z_ValueError rfl CL.nil))) mvs_nil))) (hl := by simp)) nd rfl (by first | exact Or.inl rfl | exact Or.inr rfl)))) (mss_cons (ms_if (mt_cmp (os_eq hr.units) (mp_var 2 (pv 2)) (mp_of (me_lst (mvs_cons (mv_of (me_bl)) (mvs_cons (mv_of (me_bl)) (mvs_cons (mv_of (me_bl)) mvs_nil))))) (nomark _)) (mss_one (ms_ret (me_str))) (mss_nil)) (mss_cons (ms_if (mt_cmp (os_eq hr.units) (mp_var 2 (pv 2)) (mp_of (me_lst (mvs_cons (mv_of (me_bl)) (mvs_cons (mv_of (me_bl)) (mvs_cons (mv_of (me_bl)) mvs_nil))))) (nomark _)) (mss_one (ms_ret (me_str))) (mss_nil)) (mss_one (ms_retV 3 (pv 3)))))))
abbrev s_law : Stmt := topS 30
theorem sc_law : FnScope ["_law_script", "_law_first", "_law_second", "_law_words", "_law_word_here", "_law_due_here", "_law_told_here", "_law_way", "_law_text", "_law_k", "_law_again"] ["_law_script"] (defScope s_law) := ⟨rfl, rfl, rfl, by decide +kernel, rfl, by decide +kernel, by decide +kernel⟩
theorem ok_law {f : Addr} {fd : FuncData} (F : Fun K "law" "law" s_law f fd) (T : Txt mg) (U : XF K mg Z) (F_l_number : Fd P w K mg base Z 1 "_law_number" 1 d_l_number) (F_l_cell_at : Fd P w K mg base Z 1 "_law_cell_at" 2 d_l_cell_at) (F_l_spoilt : Fd P w K mg base Z 1 "_law_spoilt" 2 d_l_spoilt) (F_l_due : Fd P w K mg base Z 3 "_law_due" 1 d_l_due) (F_l_told : Fd P w K mg base Z 5 "_law_told" 2 d_l_told) (F_show_span : Fd P w K mg base Z 1 "show_span" 1 d_show_span) (F_l_word : Fd P w K mg base Z 1 "_law_word" 2 d_l_word) (F_l_read : Fd P w K mg base Z 1 "_law_read" 1 d_l_read) (F_read_span : Fd P w K mg base Z 4 "read_span" 1 d_read_span) (F_l_shown : Fd P w K mg base Z 1 "_law_shown" 1 d_l_shown) (F_l_whole : Fd P w K mg base Z 1 "_law_whole" 1 d_l_whole) : FnOk P w K mg base (L2.CX P w) 6 f fd ["_law_script"] (spD K Z d_law 1) :=
  have nd := sc_law.nd
  fun_den F sc_law fun cdv A outer s H E hr hp tk => mss_cons (ms_set (i := 1) (me_call F_l_number (hr.mono (by decide)) tk (ma_cons (m1_val (mv_of (me_call F_l_cell_at (hr.mono (by decide)) tk (ma_cons (m1_val (mv_of (me_var 0 (pv 0)))) (ma_cons (m1_val (mv_of (me_int))) ma_nil))))) ma_nil)) nd rfl (by first | exact Or.inl rfl | exact Or.inr rfl)) (mss_cons (ms_set (i := 2) (me_call F_l_number (hr.mono (by decide)) tk (ma_cons (m1_val (mv_of (me_call F_l_cell_at (hr.mono (by decide)) tk (ma_cons (m1_val (mv_of (me_var 0 (pv 0)))) (ma_cons (m1_val (mv_of (me_int))) ma_nil))))) ma_nil)) nd rfl (by first | exact Or.inl rfl | exact Or.inr rfl)) (mss_cons (ms_if (mt_cmp (os_eq hr.units) (mp_of (me_bin os_mod (mp_of (me_call F_l_cell_at (hr.mono (by decide)) tk (ma_cons (m1_val (mv_of (me_var 0 (pv 0)))) (ma_cons (m1_val (mv_of (me_int))) ma_nil)))) (mp_of (me_int)))) (mp_of (me_int)) (nomark _)) (mss_one (ms_set (i := 2) (me_bin os_sub (mp_of (me_bin os_add (mp_var 1 (pv 1)) (mp_of (me_bin os_mod (mp_of (me_bin os_div (mp_of (me_call F_l_cell_at (hr.mono (by decide)) tk (ma_cons (m1_val (mv_of (me_var 0 (pv 0)))) (ma_cons (m1_val (mv_of (me_int))) ma_nil)))) (mp_of (me_int)))) (mp_of (me_int)))))) (mp_of (me_int))) nd rfl (by first | exact Or.inl rfl | exact Or.inr rfl))) (mss_nil)) (mss_cons (ms_set (i := 3) (me_lst (mvs_cons (mv_of (me_call F_l_word (hr.mono (by decide)) tk (ma_cons (m1_val (mv_of (me_call F_l_cell_at (hr.mono (by decide)) tk (ma_cons (m1_val (mv_of (me_var 0 (pv 0)))) (ma_cons (m1_val (mv_of (me_int))) ma_nil))))) (ma_cons (m1_val (mv_of (me_var 1 (pv 1)))) ma_nil)))) (mvs_cons (mv_of (me_call F_l_word (hr.mono (by decide)) tk (ma_cons (m1_val (mv_of (me_call F_l_cell_at (hr.mono (by decide)) tk (ma_cons (m1_val (mv_of (me_var 0 (pv 0)))) (ma_cons (m1_val (mv_of (me_int))) ma_nil))))) (ma_cons (m1_val (mv_of (me_var 2 (pv 2)))) ma_nil)))) mvs_nil))) nd rfl (by first | exact Or.inl rfl | exact Or.inr rfl)) (mss_cons (ms_lock 3 (ms_pk [4, 5, 6] (ms_for (T := (.nm 4)) hp rfl (mi_var 3 (pv 3)) (pg_name (i := 4) nd rfl (by first | exact Or.inl rfl | exact Or.inr rfl)) (mss_kl [4, 5, 6] (mss_cons (ms_set (i := 5) (me_call F_l_read (hr.mono (by decide)) tk (ma_cons (m1_val (mv_of (me_var 4 (pv 4)))) ma_nil)) nd rfl (by first | exact Or.inl rfl | exact Or.inr rfl)) (mss_cons (ms_set (i := 6) (me_call F_l_told (hr.mono (by decide)) tk (ma_cons (m1_val (mv_of (me_var 4 (pv 4)))) (ma_cons (m1_val (mv_of (me_bl))) ma_nil))) nd rfl (by first | exact Or.inl rfl | exact Or.inr rfl)) (mss_one (ms_if (mt_pw (mw_or (mt_pw (mw_and (mt_cmp os_isN (mp_var 5 (pv 5)) (mp_of (me_non)) (nomark _)) (mw_and1 (mt_cmp (os_ne hr.units) (mp_var 6 (pv 6)) (mp_of (me_str)) (nomark _))))) (mw_or1 (mt_pw (mw_and (mt_cmp os_notN (mp_var 5 (pv 5)) (mp_of (me_non)) (nomark _)) (mw_and1 (mt_pw (mw_or (mt_not (mt_val (me_call F_l_whole (hr.mono (by decide)) tk (ma_cons (m1_val (mv_of (me_var 6 (pv 6)))) ma_nil)))) (mw_or1 (mt_cmp (os_ne hr.units) (mp_var 6 (pv 6)) (mp_var 5 (pv 5)) (nomark _))))))))))) (mss_one (ms_ret (me_bl))) (mss_nil))))))))) (mss_cons (ms_set (i := 7) (me_call F_l_cell_at (hr.mono (by decide)) tk (ma_cons (m1_val (mv_of (me_var 0 (pv 0)))) (ma_cons (m1_val (mv_of (me_int))) ma_nil))) nd rfl (by first | exact Or.inl rfl | exact Or.inr rfl)) (mss_cons (ms_set (i := 8) (me_bin os_add (mp_of (me_bin os_add (mp_of (me_bin os_add (mp_of (me_bin os_add (mp_of (me_ix (mp_of (me_lst (mvs_cons (mv_of (me_str)) (mvs_cons (mv_of (me_str)) mvs_nil)))) (mp_of (me_bin os_mod (mp_var 7 (pv 7)) (mp_of (me_int)))))) (mp_of (me_ix (mp_var 3 (pv 3)) (mp_of (me_int)))))) (mp_of (me_str)))) (mp_of (me_ix (mp_var 3 (pv 3)) (mp_of (me_int)))))) (mp_of (me_ix (mp_of (me_lst (mvs_cons (mv_of (me_str)) (mvs_cons (mv_of (me_str)) mvs_nil)))) (mp_of (me_bin os_mod (mp_of (me_bin os_div (mp_var 7 (pv 7)) (mp_of (me_int)))) (mp_of (me_int))))))) nd rfl (by first | exact Or.inl rfl | exact Or.inr rfl)) (mss_cons (ms_set (i := 8) (me_call F_l_spoilt (hr.mono (by decide)) tk (ma_cons (m1_val (mv_of (me_var 8 (pv 8)))) (ma_cons (m1_val (mv_of (me_call F_l_cell_at (hr.mono (by decide)) tk (ma_cons (m1_val (mv_of (me_var 0 (pv 0)))) (ma_cons (m1_val (mv_of (me_int))) ma_nil))))) ma_nil))) nd rfl (by first | exact Or.inl rfl | exact Or.inr rfl)) (mss_cons (ms_if (mt_cmp (os_eq hr.units) (mp_of (me_bin os_mod (mp_of (me_bin os_div (mp_var 7 (pv 7)) (mp_of (me_int)))) (mp_of (me_int)))) (mp_of (me_int)) (nomark _)) (mss_one (ms_ret (me_cmp (os_eq hr.units) (mp_of (me_call F_l_told (hr.mono (by decide)) tk (ma_cons (m1_val (mv_of (me_ix (mp_of (me_lst (mvs_cons (mv_of (me_non)) (mvs_cons (mv_of (me_int)) (mvs_cons (mv_of (me_lst (mvs_cons (mv_of (me_str)) mvs_nil))) mvs_nil))))) (mp_of (me_bin os_mod (mp_of (me_bin os_div (mp_var 7 (pv 7)) (mp_of (me_int)))) (mp_of (me_int))))))) (ma_cons (m1_val (mv_of (me_cmp (os_eq hr.units) (mp_of (me_bin os_mod (mp_of (me_bin os_div (mp_var 7 (pv 7)) (mp_of (me_int)))) (mp_of (me_int)))) (mp_of (me_int)) (nomark _)))) ma_nil)))) (mp_of (me_str)) (nomark _)))) (mss_nil)) (mss_cons (ms_set (i := 5) (me_call F_l_due (hr.mono (by decide)) tk (ma_cons (m1_val (mv_of (me_var 8 (pv 8)))) ma_nil)) nd rfl (by first | exact Or.inl rfl | exact Or.inr rfl)) (mss_cons (ms_set (i := 6) (me_call F_l_told (hr.mono (by decide)) tk (ma_cons (m1_val (mv_of (me_var 8 (pv 8)))) (ma_cons (m1_val (mv_of (me_bl))) ma_nil))) nd rfl (by first | exact Or.inl rfl | exact Or.inr rfl)) (mss_cons (ms_if (mt_pw (mw_or (mt_val (me_isB (mp_var 5 (pv 5)) T.z_isinstance T.z_str)) (mw_or1 (mt_val (me_isB (mp_var 6 (pv 6)) T.z_isinstance T.z_str))))) (mss_one (ms_ret (me_and (me_isB (mp_var 5 (pv 5)) T.z_isinstance T.z_str) (me_and (me_isB (mp_var 6 (pv 6)) T.z_isinstance T.z_str) (me_one (me_cmp (os_eq hr.units) (mp_var 6 (pv 6)) (mp_var 5 (pv 5)) (nomark _))))))) (mss_nil)) (mss_cons (ms_if (mt_pw (mw_or (mt_not (mt_val (me_isB (mp_var 6 (pv 6)) T.z_isinstance T.z_tuple))) (mw_or1 (mt_cmp (os_ne hr.units) (mp_of (me_cb cs_len (by rfl) T.z_len (by decide +kernel) (mps_cons (mp_var 6 (pv 6)) mps_nil))) (mp_of (me_int)) (nomark _))))) (mss_one (ms_ret (me_bl))) (mss_nil)) (mss_cons (ms_pk [9] (ms_for (T := (.nm 9)) hp rfl (mi_range1 (mps_cons (mp_of (me_int)) mps_nil) T.z_range) (pg_name (i := 9) nd rfl (by first | exact Or.inl rfl | exact Or.inr rfl)) (mss_kl [9] (mss_one (ms_if (mt_pw (mw_or (mt_pw (mw_and (mt_cmp os_isN (mp_of (me_ix (mp_var 5 (pv 5)) (mp_var 9 (pv 9)))) (mp_of (me_non)) (nomark _)) (mw_and1 (mt_cmp os_notN (mp_of (me_ix (mp_var 6 (pv 6)) (mp_var 9 (pv 9)))) (mp_of (me_non)) (nomark _))))) (mw_or1 (mt_pw (mw_and (mt_cmp os_notN (mp_of (me_ix (mp_var 5 (pv 5)) (mp_var 9 (pv 9)))) (mp_of (me_non)) (nomark _)) (mw_and1 (mt_not (mt_val (me_call F_l_whole (hr.mono (by decide)) tk (ma_cons (m1_val (mv_of (me_ix (mp_var 6 (pv 6)) (mp_var 9 (pv 9))))) ma_nil)))))))))) (mss_one (ms_ret (me_bl))) (mss_nil)))))) (mss_cons (ms_set (i := 10) (me_call F_show_span (hr.mono (by decide)) tk (ma_cons (m1_val (mv_of (me_var 6 (pv 6)))) ma_nil)) nd rfl (by first | exact Or.inl rfl | exact Or.inr rfl)) (mss_cons (ms_if (mt_pw (mw_or (mt_cmp (os_ne hr.units) (mp_var 6 (pv 6)) (mp_var 5 (pv 5)) (nomark _)) (mw_or (mt_not (mt_val (me_isB (mp_var 10 (pv 10)) T.z_isinstance T.z_str))) (mw_or1 (mt_cmp (os_ne hr.units) (mp_var 10 (pv 10)) (mp_of (me_call F_l_shown (hr.mono (by decide)) tk (ma_cons (m1_val (mv_of (me_var 5 (pv 5)))) ma_nil))) (nomark _)))))) (mss_one (ms_ret (me_bl))) (mss_nil)) (mss_cons (ms_lock 3 (ms_if (mt_cmp os_gt (mp_of (me_cb (cs_max rfl) (by rfl) T.z_max (by decide +kernel) (mps_cons (mp_of (me_lc (own := [("_law_word_here", 4)]) (T := (.nm 4)) rfl nd (mi_var 3 (pv 3)) (blkOk_by (own := [("_law_word_here", 4)]) (N := ["_law_script", "_law_first", "_law_second", "_law_words", "_law_word_here", "_law_due_here", "_law_told_here", "_law_way", "_law_text", "_law_k", "_law_again"]) (sc := defScope s_law) (by decide +kernel)) (by rfl) (fun _ _ _ _ _ => (pg_name (i := 4) nd rfl (by first | exact Or.inl rfl | exact Or.inr rfl))) (fun _ _ _ _ _ => mts_nil) (fun _ _ _ _ _ => mv_of (me_cb cs_len (by rfl) T.z_len (by decide +kernel) (mps_cons (mp_var 4 (pv 4)) mps_nil))))) mps_nil))) (mp_of (me_int)) (nomark _)) (mss_one (ms_ret (me_bl))) (mss_nil))) (mss_one (ms_ret (me_cmp (os_eq hr.units) (mp_of (me_call F_read_span (hr.mono (by decide)) tk (ma_cons (m1_val (mv_of (me_var 10 (pv 10)))) ma_nil))) (mp_var 5 (pv 5)) (nomark _))))))))))))))))))))
end
def ZZ (cs : List Addr) (T : List NdefX.NTab := []) : Stc := ⟨fun n => cs.getD n 0, fun _ => 0, 0, T, fun _ _ _ => False⟩
theorem all_mk {P : Program} {w : World} {K : PySem.W.Frag} {h : Heap} {mg : Str → Option Value} {fa f0 f1 : Addr} {C0 C1 C2 C3 C4 C5 C6 : Addr} {kt0 kt1 : Tok} (X : K.In h) (G : h.Ns mainGlobals mg) (hfa : mg "law" = some (.ref fa))
    {od0 an0 od1 an1 : Option Addr} {sl0 sl1 : Array (Option Value)} {oc0 kV0 dc0 pm0 cd0 ct0 oc1 kV1 dc1 pm1 cd1 ct1 : Value}
    (a0 : PySem.W.findIn K (.ref C6) "low" = some (some (.ref f0))) (l0 : K.lookup f0 = some ⟨oc0, od0, .func (PySem.W.fnOf "low" "End.low" (defArgs s_End_low) (defBody s_End_low) (defScope s_End_low) .none kV0 dc0 pm0 an0 cd0 ct0), sl0⟩) (c0 : PySem.W.codeIn K cd0 "End.low" = true) (k0 : PySem.W.keepIn K (.ref f0) = true) (i0 : PySem.W.isFn K (.ref f0) = true)
    (a1 : PySem.W.findIn K (.ref C6) "behind" = some (some (.ref f1))) (l1 : K.lookup f1 = some ⟨oc1, od1, .func (PySem.W.fnOf "behind" "End.behind" (defArgs s_End_behind) (defBody s_End_behind) (defScope s_End_behind) .none kV1 dc1 pm1 an1 cd1 ct1), sl1⟩) (c1 : PySem.W.codeIn K cd1 "End.behind" = true) (k1 : PySem.W.keepIn K (.ref f1) = true) (i1 : PySem.W.isFn K (.ref f1) = true)
    (a2 : PySem.W.findIn K (.ref C4) "__init__" = some (some (.ref f2))) (l2 : K.lookup f2 = some ⟨oc2, od2, .func (PySem.W.fnOf "__init__" "Shut.__init__" (defArgs s_Shut___init__) (defBody s_Shut___init__) (defScope s_Shut___init__) .none kV2 dc2 pm2 an2 cd2 ct2), sl2⟩) (c2 : PySem.W.codeIn K cd2 "Shut.__init__" = true) (k2 : PySem.W.keepIn K (.ref f2) = true) (i2 : PySem.W.isFn K (.ref f2) = true)
    (a3 : PySem.W.findIn K (.ref C4) "low" = some (some (.ref f3))) (l3 : K.lookup f3 = some ⟨oc3, od3, .func (PySem.W.fnOf "low" "Shut.low" (defArgs s_Shut_low) (defBody s_Shut_low) (defScope s_Shut_low) .none kV3 dc3 pm3 an3 cd3 ct3), sl3⟩) (c3 : PySem.W.codeIn K cd3 "Shut.low" = true) (k3 : PySem.W.keepIn K (.ref f3) = true) (i3 : PySem.W.isFn K (.ref f3) = true)
    (a4 : PySem.W.findIn K (.ref C4) "behind" = some (some (.ref f4))) (l4 : K.lookup f4 = some ⟨oc4, od4, .func (PySem.W.fnOf "behind" "Shut.behind" (defArgs s_Shut_behind) (defBody s_Shut_behind) (defScope s_Shut_behind) .none kV4 dc4 pm4 an4 cd4 ct4), sl4⟩) (c4 : PySem.W.codeIn K cd4 "Shut.behind" = true) (k4 : PySem.W.keepIn K (.ref f4) = true) (i4 : PySem.W.isFn K (.ref f4) = true)
    (a5 : PySem.W.findIn K (.ref C5) "__init__" = some (some (.ref f5))) (l5 : K.lookup f5 = some ⟨oc5, od5, .func (PySem.W.fnOf "__init__" "Open.__init__" (defArgs s_Open___init__) (defBody s_Open___init__) (defScope s_Open___init__) .none kV5 dc5 pm5 an5 cd5 ct5), sl5⟩) (c5 : PySem.W.codeIn K cd5 "Open.__init__" = true) (k5 : PySem.W.keepIn K (.ref f5) = true) (i5 : PySem.W.isFn K (.ref f5) = true)
    (a6 : PySem.W.findIn K (.ref C5) "low" = some (some (.ref f6))) (l6 : K.lookup f6 = some ⟨oc6, od6, .func (PySem.W.fnOf "low" "Open.low" (defArgs s_Open_low) (defBody s_Open_low) (defScope s_Open_low) .none kV6 dc6 pm6 an6 cd6 ct6), sl6⟩) (c6 : PySem.W.codeIn K cd6 "Open.low" = true) (k6 : PySem.W.keepIn K (.ref f6) = true) (i6 : PySem.W.isFn K (.ref f6) = true)
    (a7 : PySem.W.findIn K (.ref C5) "behind" = some (some (.ref f7))) (l7 : K.lookup f7 = some ⟨oc7, od7, .func (PySem.W.fnOf "behind" "Open.behind" (defArgs s_Open_behind) (defBody s_Open_behind) (defScope s_Open_behind) .none kV7 dc7 pm7 an7 cd7 ct7), sl7⟩) (c7 : PySem.W.codeIn K cd7 "Open.behind" = true) (k7 : PySem.W.keepIn K (.ref f7) = true) (i7 : PySem.W.isFn K (.ref f7) = true)
    (a8 : PySem.W.nsIn K mainGlobals "is_span" = some (some (.ref f8))) (l8 : K.lookup f8 = some ⟨oc8, od8, .func (PySem.W.fnOf "is_span" "is_span" (defArgs s_is_span) (defBody s_is_span) (defScope s_is_span) .none kV8 dc8 pm8 an8 cd8 ct8), sl8⟩) (c8 : PySem.W.codeIn K cd8 "is_span" = true) (k8 : PySem.W.keepIn K (.ref f8) = true)
    (a9 : PySem.W.nsIn K mainGlobals "read_number" = some (some (.ref f9))) (l9 : K.lookup f9 = some ⟨oc9, od9, .func (PySem.W.fnOf "read_number" "read_number" (defArgs s_read_number) (defBody s_read_number) (defScope s_read_number) .none kV9 dc9 pm9 an9 cd9 ct9), sl9⟩) (c9 : PySem.W.codeIn K cd9 "read_number" = true) (k9 : PySem.W.keepIn K (.ref f9) = true)
    (a10 : PySem.W.nsIn K mainGlobals "show_span" = some (some (.ref f10))) (l10 : K.lookup f10 = some ⟨oc10, od10, .func (PySem.W.fnOf "show_span" "show_span" (defArgs s_show_span) (defBody s_show_span) (defScope s_show_span) .none kV10 dc10 pm10 an10 cd10 ct10), sl10⟩) (c10 : PySem.W.codeIn K cd10 "show_span" = true) (k10 : PySem.W.keepIn K (.ref f10) = true)
    (a11 : PySem.W.nsIn K mainGlobals "_law_cell_at" = some (some (.ref f11))) (l11 : K.lookup f11 = some ⟨oc11, od11, .func (PySem.W.fnOf "_law_cell_at" "_law_cell_at" (defArgs s_l_cell_at) (defBody s_l_cell_at) (defScope s_l_cell_at) .none kV11 dc11 pm11 an11 cd11 ct11), sl11⟩) (c11 : PySem.W.codeIn K cd11 "_law_cell_at" = true) (k11 : PySem.W.keepIn K (.ref f11) = true)
    (a12 : PySem.W.nsIn K mainGlobals "_law_number" = some (some (.ref f12))) (l12 : K.lookup f12 = some ⟨oc12, od12, .func (PySem.W.fnOf "_law_number" "_law_number" (defArgs s_l_number) (defBody s_l_number) (defScope s_l_number) .none kV12 dc12 pm12 an12 cd12 ct12), sl12⟩) (c12 : PySem.W.codeIn K cd12 "_law_number" = true) (k12 : PySem.W.keepIn K (.ref f12) = true)
    (a13 : PySem.W.nsIn K mainGlobals "_law_word" = some (some (.ref f13))) (l13 : K.lookup f13 = some ⟨oc13, od13, .func (PySem.W.fnOf "_law_word" "_law_word" (defArgs s_l_word) (defBody s_l_word) (defScope s_l_word) .none kV13 dc13 pm13 an13 cd13 ct13), sl13⟩) (c13 : PySem.W.codeIn K cd13 "_law_word" = true) (k13 : PySem.W.keepIn K (.ref f13) = true)
    (a14 : PySem.W.nsIn K mainGlobals "_law_spoilt" = some (some (.ref f14))) (l14 : K.lookup f14 = some ⟨oc14, od14, .func (PySem.W.fnOf "_law_spoilt" "_law_spoilt" (defArgs s_l_spoilt) (defBody s_l_spoilt) (defScope s_l_spoilt) .none kV14 dc14 pm14 an14 cd14 ct14), sl14⟩) (c14 : PySem.W.codeIn K cd14 "_law_spoilt" = true) (k14 : PySem.W.keepIn K (.ref f14) = true)
    (a15 : PySem.W.nsIn K mainGlobals "_law_read" = some (some (.ref f15))) (l15 : K.lookup f15 = some ⟨oc15, od15, .func (PySem.W.fnOf "_law_read" "_law_read" (defArgs s_l_read) (defBody s_l_read) (defScope s_l_read) .none kV15 dc15 pm15 an15 cd15 ct15), sl15⟩) (c15 : PySem.W.codeIn K cd15 "_law_read" = true) (k15 : PySem.W.keepIn K (.ref f15) = true)
    (a16 : PySem.W.nsIn K mainGlobals "_law_whole" = some (some (.ref f16))) (l16 : K.lookup f16 = some ⟨oc16, od16, .func (PySem.W.fnOf "_law_whole" "_law_whole" (defArgs s_l_whole) (defBody s_l_whole) (defScope s_l_whole) .none kV16 dc16 pm16 an16 cd16 ct16), sl16⟩) (c16 : PySem.W.codeIn K cd16 "_law_whole" = true) (k16 : PySem.W.keepIn K (.ref f16) = true)
    (a17 : PySem.W.nsIn K mainGlobals "_law_shown" = some (some (.ref f17))) (l17 : K.lookup f17 = some ⟨oc17, od17, .func (PySem.W.fnOf "_law_shown" "_law_shown" (defArgs s_l_shown) (defBody s_l_shown) (defScope s_l_shown) .none kV17 dc17 pm17 an17 cd17 ct17), sl17⟩) (c17 : PySem.W.codeIn K cd17 "_law_shown" = true) (k17 : PySem.W.keepIn K (.ref f17) = true)
    (a18 : PySem.W.nsIn K mainGlobals "span" = some (some (.ref f18))) (l18 : K.lookup f18 = some ⟨oc18, od18, .func (PySem.W.fnOf "span" "span" (defArgs s_span) (defBody s_span) (defScope s_span) .none kV18 dc18 pm18 an18 cd18 ct18), sl18⟩) (c18 : PySem.W.codeIn K cd18 "span" = true) (k18 : PySem.W.keepIn K (.ref f18) = true)
    (a19 : PySem.W.nsIn K mainGlobals "_law_end" = some (some (.ref f19))) (l19 : K.lookup f19 = some ⟨oc19, od19, .func (PySem.W.fnOf "_law_end" "_law_end" (defArgs s_l_end) (defBody s_l_end) (defScope s_l_end) .none kV19 dc19 pm19 an19 cd19 ct19), sl19⟩) (c19 : PySem.W.codeIn K cd19 "_law_end" = true) (k19 : PySem.W.keepIn K (.ref f19) = true)
    (a20 : PySem.W.nsIn K mainGlobals "read_end" = some (some (.ref f20))) (l20 : K.lookup f20 = some ⟨oc20, od20, .func (PySem.W.fnOf "read_end" "read_end" (defArgs s_read_end) (defBody s_read_end) (defScope s_read_end) .none kV20 dc20 pm20 an20 cd20 ct20), sl20⟩) (c20 : PySem.W.codeIn K cd20 "read_end" = true) (k20 : PySem.W.keepIn K (.ref f20) = true)
    (a21 : PySem.W.nsIn K mainGlobals "_law_due" = some (some (.ref f21))) (l21 : K.lookup f21 = some ⟨oc21, od21, .func (PySem.W.fnOf "_law_due" "_law_due" (defArgs s_l_due) (defBody s_l_due) (defScope s_l_due) .none kV21 dc21 pm21 an21 cd21 ct21), sl21⟩) (c21 : PySem.W.codeIn K cd21 "_law_due" = true) (k21 : PySem.W.keepIn K (.ref f21) = true)
    (a22 : PySem.W.nsIn K mainGlobals "read_span" = some (some (.ref f22))) (l22 : K.lookup f22 = some ⟨oc22, od22, .func (PySem.W.fnOf "read_span" "read_span" (defArgs s_read_span) (defBody s_read_span) (defScope s_read_span) .none kV22 dc22 pm22 an22 cd22 ct22), sl22⟩) (c22 : PySem.W.codeIn K cd22 "read_span" = true) (k22 : PySem.W.keepIn K (.ref f22) = true)
    (a23 : PySem.W.nsIn K mainGlobals "_law_told" = some (some (.ref f23))) (l23 : K.lookup f23 = some ⟨oc23, od23, .func (PySem.W.fnOf "_law_told" "_law_told" (defArgs s_l_told) (defBody s_l_told) (defScope s_l_told) .none kV23 dc23 pm23 an23 cd23 ct23), sl23⟩) (c23 : PySem.W.codeIn K cd23 "_law_told" = true) (k23 : PySem.W.keepIn K (.ref f23) = true)
    (a24 : PySem.W.nsIn K mainGlobals "law" = some (some (.ref f24))) (l24 : K.lookup f24 = some ⟨oc24, od24, .func (PySem.W.fnOf "law" "law" (defArgs s_law) (defBody s_law) (defScope s_law) .none kV24 dc24 pm24 an24 cd24 ct24), sl24⟩) (c24 : PySem.W.codeIn K cd24 "law" = true) (k24 : PySem.W.keepIn K (.ref f24) = true)
    (z0 : PySem.W.nsIn K mainGlobals "ValueError" = some none) (z1 : PySem.W.nsIn K mainGlobals "all" = some none) (z2 : PySem.W.nsIn K mainGlobals "bool" = some none) (z3 : PySem.W.nsIn K mainGlobals "int" = some none) (z4 : PySem.W.nsIn K mainGlobals "isinstance" = some none) (z5 : PySem.W.nsIn K mainGlobals "len" = some none) (z6 : PySem.W.nsIn K mainGlobals "max" = some none) (z7 : PySem.W.nsIn K mainGlobals "range" = some none) (z8 : PySem.W.nsIn K mainGlobals "str" = some none) (z9 : PySem.W.nsIn K mainGlobals "tuple" = some none) (kc0 : PySem.W.nsIn K mainGlobals "FIGURES" = some (some (.str "0123456789" kt0))) (kc1 : PySem.W.nsIn K mainGlobals "MOST_FIGURES" = some (some (.int 60 kt1))) (xg0 : PySem.W.nsIn K mainGlobals "SpanError" = some (some (.ref C0))) (xg1 : PySem.W.nsIn K mainGlobals "Empty" = some (some (.ref C1))) (xg2 : PySem.W.nsIn K mainGlobals "NoText" = some (some (.ref C2))) (xg3 : PySem.W.nsIn K mainGlobals "End" = some (some (.ref C3))) (xg4 : PySem.W.nsIn K mainGlobals "Shut" = some (some (.ref C4))) (xg5 : PySem.W.nsIn K mainGlobals "Open" = some (some (.ref C5))) (xg6 : PySem.W.nsIn K mainGlobals "Endless" = some (some (.ref C6))) (xe1 : PySem.W.excIn K C1 [.type "ValueError", .type "Exception", .type "BaseException", .type "object"] "ValueError.__new__" = true) (xk1 : PySem.W.keepIn K (.ref C1) = true) (xe2 : PySem.W.excIn K C2 [.type "ValueError", .type "Exception", .type "BaseException", .type "object"] "ValueError.__new__" = true) (xk2 : PySem.W.keepIn K (.ref C2) = true) (xb0 : PySem.W.subIn K (.ref C0) (.type "BaseException") = some true) (xy0 : PySem.W.typeIn K (.ref C0) = some (.type "type")) (xh0 : PySem.W.hasDictIn K C0 = true) (xb1 : PySem.W.subIn K (.ref C1) (.type "BaseException") = some true) (xy1 : PySem.W.typeIn K (.ref C1) = some (.type "type")) (xh1 : PySem.W.hasDictIn K C1 = true) (xb2 : PySem.W.subIn K (.ref C2) (.type "BaseException") = some true) (xy2 : PySem.W.typeIn K (.ref C2) = some (.type "type")) (xh2 : PySem.W.hasDictIn K C2 = true) (ea1 : PySem.W.findIn K (.ref C1) "__getattribute__" = some (some (.builtin "BaseException.__getattribute__"))) (eb1 : PySem.W.findIn K (.ref C1) "__getattr__" = some none) (ec1 : PySem.W.findIn K (.ref C1) "__class__" = some (some (.builtin "object.__class__"))) (ed1 : PySem.W.mroIn K C1 (.type "object") = some true) (ev1 : PySem.W.subIn K (.ref C1) (.type "ValueError") = some true) (es1_0 : PySem.W.subIn K (.ref C1) (.ref C0) = some true) (es1_1 : PySem.W.subIn K (.ref C1) (.ref C1) = some true) (es1_2 : PySem.W.subIn K (.ref C1) (.ref C2) = some false) (ea2 : PySem.W.findIn K (.ref C2) "__getattribute__" = some (some (.builtin "BaseException.__getattribute__"))) (eb2 : PySem.W.findIn K (.ref C2) "__getattr__" = some none) (ec2 : PySem.W.findIn K (.ref C2) "__class__" = some (some (.builtin "object.__class__"))) (ed2 : PySem.W.mroIn K C2 (.type "object") = some true) (ev2 : PySem.W.subIn K (.ref C2) (.type "ValueError") = some true) (es2_0 : PySem.W.subIn K (.ref C2) (.ref C0) = some true) (es2_1 : PySem.W.subIn K (.ref C2) (.ref C1) = some false) (es2_2 : PySem.W.subIn K (.ref C2) (.ref C2) = some true) (en : PySem.W.specialIn K (.builtin "object.__class__") "__get__" = some (some (.builtin "getset_descriptor.__get__"))) (et : PySem.W.takesIn K (.builtin "object.__class__") = some true) (xp4 : PySem.W.plainGet K C4 Str.empty = true) (xh4 : PySem.W.hasDictIn K C4 = true) (xr4 : PySem.W.plainOver K C4 = true) (xs4 : PySem.W.findIn K (.ref C4) "__setattr__" = some (some (.builtin "object.__setattr__"))) (xn4_place : PySem.W.findIn K (.ref C4) "place" = some none) (xp5 : PySem.W.plainGet K C5 Str.empty = true) (xh5 : PySem.W.hasDictIn K C5 = true) (xr5 : PySem.W.plainOver K C5 = true) (xs5 : PySem.W.findIn K (.ref C5) "__setattr__" = some (some (.builtin "object.__setattr__"))) (xn5_place : PySem.W.findIn K (.ref C5) "place" = some none) (xma6 : PySem.W.makesIn K C6 = true) (xmi6 : PySem.W.findIn K (.ref C6) "__init__" = some (some (.builtin "object.__init__"))) (xk6 : PySem.W.keepIn K (.ref C6) = true) (xmo6 : PySem.W.mroIn K C6 (.type "object") = some true) (xp6 : PySem.W.plainGet K C6 Str.empty = true) (xh6 : PySem.W.hasDictIn K C6 = true) (xr6 : PySem.W.plainOver K C6 = true) (xs6 : PySem.W.findIn K (.ref C6) "__setattr__" = some (some (.builtin "object.__setattr__"))) (xma5 : PySem.W.makesIn K C5 = true) (xk5 : PySem.W.keepIn K (.ref C5) = true) (xma4 : PySem.W.makesIn K C4 = true) (xk4 : PySem.W.keepIn K (.ref C4) = true) :
    ∃ fd : FuncData, (∀ (s : Shared) (v : Value), BindsTo s fd ⟨[v], []⟩ [("_law_script", v)]) ∧ ∀ base : Heap, K.In base → base.Ns mainGlobals mg → FnOk P w K mg base (L2.CX P w) 6 fa fd ["_law_script"] (spA K d_law 1 []) := by
  have e := hfa.symm.trans (PySem.W.mg_of X G a24)
  cases e
  have T : Txt mg := ⟨PySem.W.mg_none_of X G z0, PySem.W.mg_none_of X G z1, PySem.W.mg_none_of X G z2, PySem.W.mg_none_of X G z3, PySem.W.mg_none_of X G z4, PySem.W.mg_none_of X G z5, PySem.W.mg_none_of X G z6, PySem.W.mg_none_of X G z7, PySem.W.mg_none_of X G z8, PySem.W.mg_none_of X G z9, ⟨kt0, PySem.W.mg_of X G kc0⟩, ⟨kt1, PySem.W.mg_of X G kc1⟩⟩
  have ec_1 : ExcC K C1 := ⟨ea1, eb1, xb1, xh1, ec1, en, et, ed1⟩
  have ko_1 : ∀ t, t < 3 → PySem.W.kitOne K (.ref C1) (.ref ((ZZ [C0, C1, C2, C3, C4, C5, C6]).cls t)) = some (subc 1 t) := fun t h => match t, h with | 0, _ => kit_sub xh0 xy0 es1_0 (fun e => by first | rfl | (subst e; have q := es1_0.symm.trans es1_1; cases q)) | 1, _ => kit_sub xh1 xy1 es1_1 (fun e => by first | rfl | (subst e; have q := es1_1.symm.trans es1_1; cases q)) | 2, _ => kit_sub xh2 xy2 es1_2 (fun e => by first | rfl | (subst e; have q := es1_2.symm.trans es1_1; cases q)) | k + 3, h => absurd h (by omega)
  have kx_1 : ∀ t, t < 3 → PySem.W.exmOne K (.ref C1) (.ref ((ZZ [C0, C1, C2, C3, C4, C5, C6]).cls t)) = some (subc 1 t) := fun t h => match t, h with | 0, _ => PySem.W.exm_ref xb0 xh0 xy0 es1_0 | 1, _ => PySem.W.exm_ref xb1 xh1 xy1 es1_1 | 2, _ => PySem.W.exm_ref xb2 xh2 xy2 es1_2 | k + 3, h => absurd h (by omega)
  have ec_2 : ExcC K C2 := ⟨ea2, eb2, xb2, xh2, ec2, en, et, ed2⟩
  have ko_2 : ∀ t, t < 3 → PySem.W.kitOne K (.ref C2) (.ref ((ZZ [C0, C1, C2, C3, C4, C5, C6]).cls t)) = some (subc 2 t) := fun t h => match t, h with | 0, _ => kit_sub xh0 xy0 es2_0 (fun e => by first | rfl | (subst e; have q := es2_0.symm.trans es2_2; cases q)) | 1, _ => kit_sub xh1 xy1 es2_1 (fun e => by first | rfl | (subst e; have q := es2_1.symm.trans es2_2; cases q)) | 2, _ => kit_sub xh2 xy2 es2_2 (fun e => by first | rfl | (subst e; have q := es2_2.symm.trans es2_2; cases q)) | k + 3, h => absurd h (by omega)
  have kx_2 : ∀ t, t < 3 → PySem.W.exmOne K (.ref C2) (.ref ((ZZ [C0, C1, C2, C3, C4, C5, C6]).cls t)) = some (subc 2 t) := fun t h => match t, h with | 0, _ => PySem.W.exm_ref xb0 xh0 xy0 es2_0 | 1, _ => PySem.W.exm_ref xb1 xh1 xy1 es2_1 | 2, _ => PySem.W.exm_ref xb2 xh2 xy2 es2_2 | k + 3, h => absurd h (by omega)
  have kv_2 : PySem.W.kitOne K (.ref C2) (.type "ValueError") = some true := kit_ve ev2
  have kv_1 : PySem.W.kitOne K (.ref C1) (.type "ValueError") = some true := kit_ve ev1
  have xt : XT K (ZZ [C0, C1, C2, C3, C4, C5, C6]) [1, 2] 3 := (xt_cons (c := 1) (Z := (ZZ [C0, C1, C2, C3, C4, C5, C6])) ec_1 ko_1 kx_1 kv_1 (xt_cons (c := 2) (Z := (ZZ [C0, C1, C2, C3, C4, C5, C6])) ec_2 ko_2 kx_2 kv_2 xt_nil))
  have U : XF K mg (ZZ [C0, C1, C2, C3, C4, C5, C6]) := ⟨PySem.W.mg_of X G xg0, PySem.W.mg_of X G xg1, PySem.W.mg_of X G xg2, ⟨xe1, xk1, xb1, xy1⟩, ⟨xe2, xk2, xb2, xy2⟩, xt, ⟨xp4, xh4, xr4, xs4⟩, xn4_place, ⟨xp5, xh5, xr5, xs5⟩, xn5_place, ⟨⟨xma6, xmi6, xk6, xmo6⟩, PySem.W.mg_of X G xg6⟩⟩
  have u0 := fun_mk (st := s_End_low) l0 c0 k0
  have b0 := u0.binds (ps := ["self"]) fun _ _ _ _ _ _ us hl => match us, hl with | [_], _ => rfl
  have u1 := fun_mk (st := s_End_behind) l1 c1 k1
  have b1 := u1.binds (ps := ["self"]) fun _ _ _ _ _ _ us hl => match us, hl with | [_], _ => rfl
  have u2 := fun_mk (st := s_Shut___init__) l2 c2 k2
  have b2 := u2.binds (ps := ["self", "place"]) fun _ _ _ _ _ _ us hl => match us, hl with | [_, _], _ => rfl
  have u3 := fun_mk (st := s_Shut_low) l3 c3 k3
  have b3 := u3.binds (ps := ["self"]) fun _ _ _ _ _ _ us hl => match us, hl with | [_], _ => rfl
  have u4 := fun_mk (st := s_Shut_behind) l4 c4 k4
  have b4 := u4.binds (ps := ["self"]) fun _ _ _ _ _ _ us hl => match us, hl with | [_], _ => rfl
  have u5 := fun_mk (st := s_Open___init__) l5 c5 k5
  have b5 := u5.binds (ps := ["self", "place"]) fun _ _ _ _ _ _ us hl => match us, hl with | [_, _], _ => rfl
  have u6 := fun_mk (st := s_Open_low) l6 c6 k6
  have b6 := u6.binds (ps := ["self"]) fun _ _ _ _ _ _ us hl => match us, hl with | [_], _ => rfl
  have u7 := fun_mk (st := s_Open_behind) l7 c7 k7
  have b7 := u7.binds (ps := ["self"]) fun _ _ _ _ _ _ us hl => match us, hl with | [_], _ => rfl
  have u8 := fun_mk (st := s_is_span) l8 c8 k8
  have b8 := u8.binds (ps := ["low", "behind"]) fun _ _ _ _ _ _ us hl => match us, hl with | [_, _], _ => rfl
  have u9 := fun_mk (st := s_read_number) l9 c9 k9
  have b9 := u9.binds (ps := ["text"]) fun _ _ _ _ _ _ us hl => match us, hl with | [_], _ => rfl
  have u10 := fun_mk (st := s_show_span) l10 c10 k10
  have b10 := u10.binds (ps := ["one"]) fun _ _ _ _ _ _ us hl => match us, hl with | [_], _ => rfl
  have u11 := fun_mk (st := s_l_cell_at) l11 c11 k11
  have b11 := u11.binds (ps := ["_law_script", "_law_k"]) fun _ _ _ _ _ _ us hl => match us, hl with | [_, _], _ => rfl
  have u12 := fun_mk (st := s_l_number) l12 c12 k12
  have b12 := u12.binds (ps := ["_law_cell"]) fun _ _ _ _ _ _ us hl => match us, hl with | [_], _ => rfl
  have u13 := fun_mk (st := s_l_word) l13 c13 k13
  have b13 := u13.binds (ps := ["_law_cell", "_law_number_here"]) fun _ _ _ _ _ _ us hl => match us, hl with | [_, _], _ => rfl
  have u14 := fun_mk (st := s_l_spoilt) l14 c14 k14
  have b14 := u14.binds (ps := ["_law_text", "_law_cell"]) fun _ _ _ _ _ _ us hl => match us, hl with | [_, _], _ => rfl
  have u15 := fun_mk (st := s_l_read) l15 c15 k15
  have b15 := u15.binds (ps := ["_law_word_here"]) fun _ _ _ _ _ _ us hl => match us, hl with | [_], _ => rfl
  have u16 := fun_mk (st := s_l_whole) l16 c16 k16
  have b16 := u16.binds (ps := ["_law_found"]) fun _ _ _ _ _ _ us hl => match us, hl with | [_], _ => rfl
  have u17 := fun_mk (st := s_l_shown) l17 c17 k17
  have b17 := u17.binds (ps := ["_law_one"]) fun _ _ _ _ _ _ us hl => match us, hl with | [_], _ => rfl
  have u18 := fun_mk (st := s_span) l18 c18 k18
  have b18 := u18.binds (ps := ["low_end", "high_end"]) fun _ _ _ _ _ _ us hl => match us, hl with | [_, _], _ => rfl
  have u19 := fun_mk (st := s_l_end) l19 c19 k19
  have b19 := u19.binds (ps := ["_law_bracket", "_law_word_here", "_law_shut", "_law_more"]) fun _ _ _ _ _ _ us hl => match us, hl with | [_, _, _, _], _ => rfl
  have u20 := fun_mk (st := s_read_end) l20 c20 k20
  have b20 := u20.binds (ps := ["bracket", "word", "shut"]) fun _ _ _ _ _ _ us hl => match us, hl with | [_, _, _], _ => rfl
  have u21 := fun_mk (st := s_l_due) l21 c21 k21
  have b21 := u21.binds (ps := ["_law_text"]) fun _ _ _ _ _ _ us hl => match us, hl with | [_], _ => rfl
  have u22 := fun_mk (st := s_read_span) l22 c22 k22
  have b22 := u22.binds (ps := ["text"]) fun _ _ _ _ _ _ us hl => match us, hl with | [_], _ => rfl
  have u23 := fun_mk (st := s_l_told) l23 c23 k23
  have b23 := u23.binds (ps := ["_law_text", "_law_spans"]) fun _ _ _ _ _ _ us hl => match us, hl with | [_, _], _ => rfl
  have u24 := fun_mk (st := s_law) l24 c24 k24
  refine ⟨PySem.W.fnOf "law" "law" (defArgs s_law) (defBody s_law) (defScope s_law) .none kV24 dc24 pm24 an24 cd24 ct24, fun s v => .of_eq rfl, fun base _ _ => ?_⟩
  have G_End_low := ok_End_low (P := P) (w := w) (mg := mg) (base := base) (Z := (ZZ [C0, C1, C2, C3, C4, C5, C6])) u0 T U 
  have M_Endless_low : Fmt P w K mg base (ZZ [C0, C1, C2, C3, C4, C5, C6]) 1 6 1 "low" d_End_low := ⟨f0, ⟨xp6, xh6, xr6, xs6⟩, ⟨a0, i0, k0⟩, fdf_of rfl G_End_low b0⟩
  have G_End_behind := ok_End_behind (P := P) (w := w) (mg := mg) (base := base) (Z := (ZZ [C0, C1, C2, C3, C4, C5, C6])) u1 T U 
  have M_Endless_behind : Fmt P w K mg base (ZZ [C0, C1, C2, C3, C4, C5, C6]) 1 6 1 "behind" d_End_behind := ⟨f1, ⟨xp6, xh6, xr6, xs6⟩, ⟨a1, i1, k1⟩, fdf_of rfl G_End_behind b1⟩
  have G_Shut___init__ := ok_Shut___init__ (P := P) (w := w) (mg := mg) (base := base) (Z := (ZZ [C0, C1, C2, C3, C4, C5, C6])) u2 T U 
  have K_Shut_1 : Fmk P w K mg base (ZZ [C0, C1, C2, C3, C4, C5, C6]) 1 4 2 "Shut" [] d_Shut___init__ := ⟨f2, ⟨xma4, a2, i2, xk4⟩, PySem.W.mg_of X G xg4, fdf_of rfl G_Shut___init__ b2⟩
  have G_Shut_low := ok_Shut_low (P := P) (w := w) (mg := mg) (base := base) (Z := (ZZ [C0, C1, C2, C3, C4, C5, C6])) u3 T U 
  have M_Shut_low : Fmt P w K mg base (ZZ [C0, C1, C2, C3, C4, C5, C6]) 1 4 1 "low" d_Shut_low := ⟨f3, ⟨xp4, xh4, xr4, xs4⟩, ⟨a3, i3, k3⟩, fdf_of rfl G_Shut_low b3⟩
  have G_Shut_behind := ok_Shut_behind (P := P) (w := w) (mg := mg) (base := base) (Z := (ZZ [C0, C1, C2, C3, C4, C5, C6])) u4 T U 
  have M_Shut_behind : Fmt P w K mg base (ZZ [C0, C1, C2, C3, C4, C5, C6]) 1 4 1 "behind" d_Shut_behind := ⟨f4, ⟨xp4, xh4, xr4, xs4⟩, ⟨a4, i4, k4⟩, fdf_of rfl G_Shut_behind b4⟩
  have G_Open___init__ := ok_Open___init__ (P := P) (w := w) (mg := mg) (base := base) (Z := (ZZ [C0, C1, C2, C3, C4, C5, C6])) u5 T U 
  have K_Open_1 : Fmk P w K mg base (ZZ [C0, C1, C2, C3, C4, C5, C6]) 1 5 2 "Open" [] d_Open___init__ := ⟨f5, ⟨xma5, a5, i5, xk5⟩, PySem.W.mg_of X G xg5, fdf_of rfl G_Open___init__ b5⟩
  have G_Open_low := ok_Open_low (P := P) (w := w) (mg := mg) (base := base) (Z := (ZZ [C0, C1, C2, C3, C4, C5, C6])) u6 T U 
  have M_Open_low : Fmt P w K mg base (ZZ [C0, C1, C2, C3, C4, C5, C6]) 1 5 1 "low" d_Open_low := ⟨f6, ⟨xp5, xh5, xr5, xs5⟩, ⟨a6, i6, k6⟩, fdf_of rfl G_Open_low b6⟩
  have G_Open_behind := ok_Open_behind (P := P) (w := w) (mg := mg) (base := base) (Z := (ZZ [C0, C1, C2, C3, C4, C5, C6])) u7 T U 
  have M_Open_behind : Fmt P w K mg base (ZZ [C0, C1, C2, C3, C4, C5, C6]) 1 5 1 "behind" d_Open_behind := ⟨f7, ⟨xp5, xh5, xr5, xs5⟩, ⟨a7, i7, k7⟩, fdf_of rfl G_Open_behind b7⟩
  have F_is_span : Fd P w K mg base (ZZ [C0, C1, C2, C3, C4, C5, C6]) 1 "is_span" 2 d_is_span := ⟨_, _, _, rfl, ok_is_span u8 T U , PySem.W.mg_of X G a8, k8, b8⟩
  have F_read_number : Fd P w K mg base (ZZ [C0, C1, C2, C3, C4, C5, C6]) 1 "read_number" 1 d_read_number := ⟨_, _, _, rfl, ok_read_number u9 T U , PySem.W.mg_of X G a9, k9, b9⟩
  have F_show_span : Fd P w K mg base (ZZ [C0, C1, C2, C3, C4, C5, C6]) 1 "show_span" 1 d_show_span := ⟨_, _, _, rfl, ok_show_span u10 T U , PySem.W.mg_of X G a10, k10, b10⟩
  have F_l_cell_at : Fd P w K mg base (ZZ [C0, C1, C2, C3, C4, C5, C6]) 1 "_law_cell_at" 2 d_l_cell_at := ⟨_, _, _, rfl, ok_l_cell_at u11 T U , PySem.W.mg_of X G a11, k11, b11⟩
  have F_l_number : Fd P w K mg base (ZZ [C0, C1, C2, C3, C4, C5, C6]) 1 "_law_number" 1 d_l_number := ⟨_, _, _, rfl, ok_l_number u12 T U , PySem.W.mg_of X G a12, k12, b12⟩
  have F_l_word : Fd P w K mg base (ZZ [C0, C1, C2, C3, C4, C5, C6]) 1 "_law_word" 2 d_l_word := ⟨_, _, _, rfl, ok_l_word u13 T U , PySem.W.mg_of X G a13, k13, b13⟩
  have F_l_spoilt : Fd P w K mg base (ZZ [C0, C1, C2, C3, C4, C5, C6]) 1 "_law_spoilt" 2 d_l_spoilt := ⟨_, _, _, rfl, ok_l_spoilt u14 T U , PySem.W.mg_of X G a14, k14, b14⟩
  have F_l_read : Fd P w K mg base (ZZ [C0, C1, C2, C3, C4, C5, C6]) 1 "_law_read" 1 d_l_read := ⟨_, _, _, rfl, ok_l_read u15 T U , PySem.W.mg_of X G a15, k15, b15⟩
  have F_l_whole : Fd P w K mg base (ZZ [C0, C1, C2, C3, C4, C5, C6]) 1 "_law_whole" 1 d_l_whole := ⟨_, _, _, rfl, ok_l_whole u16 T U , PySem.W.mg_of X G a16, k16, b16⟩
  have F_l_shown : Fd P w K mg base (ZZ [C0, C1, C2, C3, C4, C5, C6]) 1 "_law_shown" 1 d_l_shown := ⟨_, _, _, rfl, ok_l_shown u17 T U , PySem.W.mg_of X G a17, k17, b17⟩
  have F_span : Fd P w K mg base (ZZ [C0, C1, C2, C3, C4, C5, C6]) 2 "span" 2 d_span := ⟨_, _, _, rfl, ok_span u18 T U M_Shut_low M_Open_low M_Endless_low M_Shut_behind M_Open_behind M_Endless_behind F_is_span, PySem.W.mg_of X G a18, k18, b18⟩
  have F_l_end : Fd P w K mg base (ZZ [C0, C1, C2, C3, C4, C5, C6]) 2 "_law_end" 4 d_l_end := ⟨_, _, _, rfl, ok_l_end u19 T U F_l_read, PySem.W.mg_of X G a19, k19, b19⟩
  have F_read_end : Fd P w K mg base (ZZ [C0, C1, C2, C3, C4, C5, C6]) 3 "read_end" 3 d_read_end := ⟨_, _, _, rfl, ok_read_end u20 T U F_read_number K_Open_1 K_Shut_1, PySem.W.mg_of X G a20, k20, b20⟩
  have F_l_due : Fd P w K mg base (ZZ [C0, C1, C2, C3, C4, C5, C6]) 3 "_law_due" 1 d_l_due := ⟨_, _, _, rfl, ok_l_due u21 T U F_l_end, PySem.W.mg_of X G a21, k21, b21⟩
  have F_read_span : Fd P w K mg base (ZZ [C0, C1, C2, C3, C4, C5, C6]) 4 "read_span" 1 d_read_span := ⟨_, _, _, rfl, ok_read_span u22 T U F_read_end F_span, PySem.W.mg_of X G a22, k22, b22⟩
  have F_l_told : Fd P w K mg base (ZZ [C0, C1, C2, C3, C4, C5, C6]) 5 "_law_told" 2 d_l_told := ⟨_, _, _, rfl, ok_l_told u23 T U F_read_span F_read_number, PySem.W.mg_of X G a23, k23, b23⟩
  exact fn_all (Z := (ZZ [C0, C1, C2, C3, C4, C5, C6])) (ok_law u24 T U F_l_number F_l_cell_at F_l_spoilt F_l_due F_l_told F_show_span F_l_word F_l_read F_read_span F_l_shown F_l_whole)
end Lw
open PySem PySem.W PyProof.Rows
set_option maxRecDepth 100000 in
set_option maxHeartbeats 0 in
theorem PySem.Challenge.cw_spanmap_k91_numbers_and_spans_read_holds : PySem.Challenge.rw_spanmap_k91_numbers_and_spans_read.Holds := by
  w_on; o_law; k_head; (case hw => w_witness2)
  k_fill
  refine L2.walk_ofB (l := PySem.Challenge.rw_spanmap_k91_numbers_and_spans_read) (n := 63) (k := 6) (x := "_law_script") (CX := fun w => L2.CX PySem.Challenge.rw_spanmap_k91_numbers_and_spans_read.prog w) (sp := fun w => Eg.spA _ Lw.d_law 1) rfl (by decide) rfl ⟨rfl, by decide, by decide⟩ (fun w h Y => PySem.W.kIn_of Y) ?F (fun w H a ns hl hb _ hS => Eg.law_spA hS (Lw.law_true ns hl hb)) (fun _ _ _ _ _ h => Eg.cx_no h)
  case F =>
    intro w mg fa h KX G hmg
    refine' Lw.all_mk KX G hmg ?a0 ?l0 ?c0 ?k0 ?i0 ?a1 ?l1 ?c1 ?k1 ?i1 ?a2 ?l2 ?c2 ?k2 ?i2 ?a3 ?l3 ?c3 ?k3 ?i3 ?a4 ?l4 ?c4 ?k4 ?i4 ?a5 ?l5 ?c5 ?k5 ?i5 ?a6 ?l6 ?c6 ?k6 ?i6 ?a7 ?l7 ?c7 ?k7 ?i7 ?a8 ?l8 ?c8 ?k8 ?a9 ?l9 ?c9 ?k9 ?a10 ?l10 ?c10 ?k10 ?a11 ?l11 ?c11 ?k11 ?a12 ?l12 ?c12 ?k12 ?a13 ?l13 ?c13 ?k13 ?a14 ?l14 ?c14 ?k14 ?a15 ?l15 ?c15 ?k15 ?a16 ?l16 ?c16 ?k16 ?a17 ?l17 ?c17 ?k17 ?a18 ?l18 ?c18 ?k18 ?a19 ?l19 ?c19 ?k19 ?a20 ?l20 ?c20 ?k20 ?a21 ?l21 ?c21 ?k21 ?a22 ?l22 ?c22 ?k22 ?a23 ?l23 ?c23 ?k23 ?a24 ?l24 ?c24 ?k24 ?z0 ?z1 ?z2 ?z3 ?z4 ?z5 ?z6 ?z7 ?z8 ?z9 ?kc0 ?kc1 ?xg0 ?xg1 ?xg2 ?xg3 ?xg4 ?xg5 ?xg6 ?xe1 ?xk1 ?xe2 ?xk2 ?xb0 ?xy0 ?xh0 ?xb1 ?xy1 ?xh1 ?xb2 ?xy2 ?xh2 ?ea1 ?eb1 ?ec1 ?ed1 ?ev1 ?es1_0 ?es1_1 ?es1_2 ?ea2 ?eb2 ?ec2 ?ed2 ?ev2 ?es2_0 ?es2_1 ?es2_2 ?en ?et ?xp4 ?xh4 ?xr4 ?xs4 ?xn4_place ?xp5 ?xh5 ?xr5 ?xs5 ?xn5_place ?xma6 ?xmi6 ?xk6 ?xmo6 ?xp6 ?xh6 ?xr6 ?xs6 ?xma5 ?xk5 ?xma4 ?xk4
    (case xg0 => k_is)
    (case xg1 => k_is)
    (case xg2 => k_is)
    (case xg3 => k_is)
    (case xg4 => k_is)
    (case xg5 => k_is)
    (case xg6 => k_is)
    (case a0 => k_is)
    (case l0 => k_is)
    (case c0 => k_is)
    (case k0 => k_is)
    (case i0 => k_is)
    (case a1 => k_is)
    (case l1 => k_is)
    (case c1 => k_is)
    (case k1 => k_is)
    (case i1 => k_is)
    (case a2 => k_is)
    (case l2 => k_is)
    (case c2 => k_is)
    (case k2 => k_is)
    (case i2 => k_is)
    (case a3 => k_is)
    (case l3 => k_is)
    (case c3 => k_is)
    (case k3 => k_is)
    (case i3 => k_is)
    (case a4 => k_is)
    (case l4 => k_is)
    (case c4 => k_is)
    (case k4 => k_is)
    (case i4 => k_is)
    (case a5 => k_is)
    (case l5 => k_is)
    (case c5 => k_is)
    (case k5 => k_is)
    (case i5 => k_is)
    (case a6 => k_is)
    (case l6 => k_is)
    (case c6 => k_is)
    (case k6 => k_is)
    (case i6 => k_is)
    (case a7 => k_is)
    (case l7 => k_is)
    (case c7 => k_is)
    (case k7 => k_is)
    (case i7 => k_is)
    (case a8 => k_is)
    (case l8 => k_is)
    (case c8 => k_is)
    (case k8 => k_is)
    (case a9 => k_is)
    (case l9 => k_is)
    (case c9 => k_is)
    (case k9 => k_is)
    (case a10 => k_is)
    (case l10 => k_is)
    (case c10 => k_is)
    (case k10 => k_is)
    (case a11 => k_is)
    (case l11 => k_is)
    (case c11 => k_is)
    (case k11 => k_is)
    (case a12 => k_is)
    (case l12 => k_is)
    (case c12 => k_is)
    (case k12 => k_is)
    (case a13 => k_is)
    (case l13 => k_is)
    (case c13 => k_is)
    (case k13 => k_is)
    (case a14 => k_is)
    (case l14 => k_is)
    (case c14 => k_is)
    (case k14 => k_is)
    (case a15 => k_is)
    (case l15 => k_is)
    (case c15 => k_is)
    (case k15 => k_is)
    (case a16 => k_is)
    (case l16 => k_is)
    (case c16 => k_is)
    (case k16 => k_is)
    (case a17 => k_is)
    (case l17 => k_is)
    (case c17 => k_is)
    (case k17 => k_is)
    (case a18 => k_is)
    (case l18 => k_is)
    (case c18 => k_is)
    (case k18 => k_is)
    (case a19 => k_is)
    (case l19 => k_is)
    (case c19 => k_is)
    (case k19 => k_is)
    (case a20 => k_is)
    (case l20 => k_is)
    (case c20 => k_is)
    (case k20 => k_is)
    (case a21 => k_is)
    (case l21 => k_is)
    (case c21 => k_is)
    (case k21 => k_is)
    (case a22 => k_is)
    (case l22 => k_is)
    (case c22 => k_is)
    (case k22 => k_is)
    (case a23 => k_is)
    (case l23 => k_is)
    (case c23 => k_is)
    (case k23 => k_is)
    (case a24 => k_is)
    (case l24 => k_is)
    (case c24 => k_is)
    (case k24 => k_is)
    (case z0 => k_is)
    (case z1 => k_is)
    (case z2 => k_is)
    (case z3 => k_is)
    (case z4 => k_is)
    (case z5 => k_is)
    (case z6 => k_is)
    (case z7 => k_is)
    (case z8 => k_is)
    (case z9 => k_is)
    (case kc0 => k_is)
    (case kc1 => k_is)
    (case xe1 => k_exc)
    (case xk1 => k_is)
    (case xe2 => k_exc)
    (case xk2 => k_is)
    (case xb0 => k_is)
    (case xy0 => k_is)
    (case xh0 => k_is)
    (case xb1 => k_is)
    (case xy1 => k_is)
    (case xh1 => k_is)
    (case xb2 => k_is)
    (case xy2 => k_is)
    (case xh2 => k_is)
    (case ea1 => k_is)
    (case eb1 => k_is)
    (case ec1 => k_is)
    (case ed1 => k_is)
    (case ev1 => k_is)
    (case es1_0 => k_is)
    (case es1_1 => k_is)
    (case es1_2 => k_is)
    (case ea2 => k_is)
    (case eb2 => k_is)
    (case ec2 => k_is)
    (case ed2 => k_is)
    (case ev2 => k_is)
    (case es2_0 => k_is)
    (case es2_1 => k_is)
    (case es2_2 => k_is)
    (case en => k_is)
    (case et => k_is)
    (case xp4 => k_is)
    (case xh4 => k_is)
    (case xr4 => k_is)
    (case xs4 => k_is)
    (case xn4_place => k_is)
    (case xp5 => k_is)
    (case xh5 => k_is)
    (case xr5 => k_is)
    (case xs5 => k_is)
    (case xn5_place => k_is)
    (case xma6 => k_is)
    (case xmi6 => k_is)
    (case xk6 => k_is)
    (case xmo6 => k_is)
    (case xp6 => k_is)
    (case xh6 => k_is)
    (case xr6 => k_is)
    (case xs6 => k_is)
    (case xma5 => k_is)
    (case xk5 => k_is)
    (case xma4 => k_is)
    (case xk4 => k_is)
